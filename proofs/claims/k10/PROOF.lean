import PyProof.Rows.All
import HandS.ForMost
import HandS.TupAny
import HandS.TupLe
import HandS.TupMul
import HandS.TupLen
import HandS.SetKeys
import HandS.Wide
import HandS.Zip
import HandS.Rev
import HandS.DictTup
import HandS.IsInst
import HandS.Deep
import HandS.SortInts
import HandS.Conv
import KE.SortData
import KE.DataCmp
import HandS.CallSlots
import HandS.ForExc
import PySem.Challenge.RW_deltahouse_k10_a_row_passes
set_option Elab.async false
set_option linter.all false
set_option maxRecDepth 100000
set_option maxHeartbeats 4000000
namespace DD
open PySem

/-- data: tuples and lists that never change any more are plain values; ref: an object of the store -/
inductive D where
  | non | bl (b : Bool) | int (i : Int) | str (s : Str)
  | tup (xs : List D) | lst (xs : List D) | dct (t : Bool) (kvs : List (D × D)) | ref (i : Nat)
  deriving Inhabited

/-- what stands in the store (t: keys are tuples; else ints and texts) -/
inductive Ob where
  | lst (xs : List D) | dct (t : Bool) (kvs : List (D × D)) | lck (o : Ob)
  deriving Inhabited
abbrev Store := List Ob
abbrev DEnv := List (Option D)

/-- how a piece of code ends -/
inductive R (α : Type) where
  | ok (a : α) (S : Store) | exc (c : Str) (S : Store) | stuck
def R.bind {α β : Type} (r : R α) (f : α → Store → R β) : R β := match r with
  | .ok a S => f a S
  | .exc c S => .exc c S
  | .stuck => .stuck
/-- how a call ends: a value, a new list or dict that nobody else knows, an exception -/
inductive Res where
  | val (d : D) | new (o : Ob) | exc (c : Str) | stuck

/-! ### as plain data: ==, < -/
mutual
def D.toPy : D → PyData
  | .non => .none | .bl b => .bool b | .int i => .int i | .str x => .str x
  | .tup xs => .tuple (D.toPys xs) | .lst xs => .list (D.toPys xs) | .dct _ _ => .dict [] | .ref _ => .dict []
def D.toPys : List D → List PyData
  | [] => []
  | x :: xs => D.toPy x :: D.toPys xs
end
/-- == of two values -/
def D.eqv (a b : D) : Bool := PyData.eqv a.toPy b.toPy
/-- what can be compared: no dict, texts well made, not too deep -/
def D.cmpOk (d : D) : Bool := d.toPy.canLay0 && decide (d.toPy.depth ≤ 60)
mutual
def D.noRef : D → Bool
  | .tup xs => D.noRefs xs | .lst xs => D.noRefs xs | .dct _ kvs => D.noRefKs kvs | .ref _ => false | _ => true
def D.noRefs : List D → Bool
  | [] => true
  | x :: xs => D.noRef x && D.noRefs xs
def D.noRefKs : List (D × D) → Bool
  | [] => true
  | (k, v) :: r => D.noRef k && D.noRef v && D.noRefKs r
end
mutual
/-- no list, no dict, no ref within -/
def D.flat : D → Bool
  | .tup xs => D.flats xs | .lst _ => false | .dct _ _ => false | .ref _ => false | _ => true
def D.flats : List D → Bool
  | [] => true
  | x :: xs => D.flat x && D.flats xs
def D.flatKs : List (D × D) → Bool
  | [] => true
  | (k, v) :: r => D.flat k && D.flat v && D.flatKs r
end
/-- the inner of what is locked -/
def Ob.inner : Ob → Ob
  | .lck o => o.inner
  | o => o
mutual
/-- data with its refs put in -/
def D.sub (f : Nat → Option D) : D → Option D
  | .tup xs => (D.subs f xs).map D.tup
  | .lst xs => (D.subs f xs).map D.lst
  | .dct t kvs => (D.subks f kvs).map (D.dct t)
  | .ref i => f i
  | .non => some .non
  | .bl b => some (.bl b)
  | .int i => some (.int i)
  | .str x => some (.str x)
def D.subs (f : Nat → Option D) : List D → Option (List D)
  | [] => some []
  | x :: xs => (D.sub f x).bind fun y => (D.subs f xs).map (y :: ·)
def D.subks (f : Nat → Option D) : List (D × D) → Option (List (D × D))
  | [] => some []
  | (k, v) :: r => (D.sub f k).bind fun k' => (D.sub f v).bind fun v' => (D.subks f r).map ((k', v') :: ·)
end
/-- what the object i is, read to the depth n -/
def rdN : Nat → Store → Nat → Option D
  | 0, _, _ => none
  | n + 1, S, i => match S[i]?.map Ob.inner with
    | some (.lst xs) => (D.subs (rdN n S) xs).map D.lst
    | some (.dct t kvs) => (D.subks (rdN n S) kvs).map (D.dct t)
    | _ => none
/-- the refs read off the store -/
def D.rd (S : Store) (d : D) : Option D := D.sub (rdN 8 S) d
def D.rds (S : Store) (ds : List D) : Option (List D) := D.subs (rdN 8 S) ds

/-! ### dicts -/
def D.isK : D → Bool
  | .int _ => true | .str _ => true | _ => false
def D.isT : D → Bool
  | .tup xs => xs.all D.isK | _ => false
def D.isKey (t : Bool) (d : D) : Bool := if t then d.isT else d.isK
def dlook (kvs : List (D × D)) (k : D) : Option D := (kvs.find? fun p => p.1.eqv k).map (·.2)
def dput (kvs : List (D × D)) (k v : D) : List (D × D) :=
  if (kvs.any fun p => p.1.eqv k) = true then kvs.map (fun p => if p.1.eqv k = true then (p.1, v) else p) else kvs ++ [(k, v)]
def ddrop (kvs : List (D × D)) (k : D) : List (D × D) := kvs.filter fun p => !p.1.eqv k

/-! ### what a value is in a store -/
def D.list? (S : Store) : D → Option (List D)
  | .lst xs => some xs
  | .ref i => match S[i]?.map Ob.inner with | some (.lst xs) => some xs | _ => none
  | _ => none
def D.seq? (S : Store) : D → Option (List D)
  | .tup xs => some xs
  | d => d.list? S
def D.dict? (S : Store) : D → Option (Bool × List (D × D))
  | .dct t kvs => some (t, kvs)
  | .ref i => match S[i]?.map Ob.inner with | some (.dct t kvs) => some (t, kvs) | _ => none
  | _ => none
/-- a new list or dict: of the store (m), or one that is never changed -/
def mk (m : Bool) (o : Ob) (S : Store) : R D := if m then .ok (.ref S.length) (S ++ [o]) else match o with
  | .lst xs => .ok (.lst xs) S
  | .dct t kvs => .ok (.dct t kvs) S
  | .lck _ => .stuck
def okIf {α : Type} (c : Bool) (r : R α) : R α := if c then r else .stuck

/-! ### the language -/
inductive Bop where
  | add | sub | mul | fdiv | mod | pow
inductive Cop where
  | eq | ne | lt | le | gt | ge | isin | nin | is | isn
inductive Ty where
  | int | bool | str | tuple | list | dict
inductive Pr where
  | len | isinst (T : Ty) | tuple | list | sorted | str | int | min2 | max2 | minL | maxL | sumL | abs | dict
inductive Me where
  | get1 | get2 | setdef | append | clear | extend | pop0 | popAt | popD | popD2
inductive ItK where
  | range1 | range2 | range3 | enum | zip | rev | items
inductive Tg where
  | nm (i : Nat) | tup (ts : Tg) | nil | cons (t ts : Tg)
inductive E where
  | var (i : Nat) | int (i : Int) | bl (b : Bool) | str (s : Str) | non
  | glob (x : Str) (d : D)
  | bin (op : Bop) (m : Bool) (a b : E) | neg (a : E) | not (a : E)
  | cmp (op : Cop) (a b : E) | chain (o1 o2 : Cop) (a b c : E)
  | and (a b : E) | or (a b : E) | ite (c a b : E)
  | tup (es : E) | lst (m : Bool) (es : E) | dict (m t : Bool) (kvs : E)
  | idx (a i : E) | slice (m : Bool) (a lo hi : E) | back (m : Bool) (a : E)
  | comp (m : Bool) (elt : E) (tg : Tg) (it ifs : E) (own : List Nat)
  | call (f : Nat) (m : Bool) (es : E) | callS (f : Nat) (es : E)
  | prim (p : Pr) (m : Bool) (es : E) | meth (me : Me) (m : Bool) (o es : E)
  | iter (k : ItK) (es : E)
  | no | nil | cons (e es : E)
inductive St where
  | nop | seq (a b : St)
  | set (tg : Tg) (e : E) | setIdx (o i v : E) | expr (e : E)
  | ite (c : E) (a b : St) | for (tg : Tg) (it : E) (body : St) | while (c : E) (body : St)
  | ret (e : E) | retN | raise (c : Str)
structure Fn where
  arity : Nat
  slots : Nat
  body : St

/-! ### operations by values -/
def mulOk (i j : Int) : Bool := decide ((-(2 ^ 64) < i ∧ i < 2 ^ 64) ∨ (-(2 ^ 64) < j ∧ j < 2 ^ 64) ∨ i.natAbs.log2 + j.natAbs.log2 < 1000000)
def divOk (j : Int) : Bool := decide (0 < j ∧ j.natAbs.log2 < 9000)
def powOk (i j : Int) : Bool := decide (0 ≤ j ∧ j ≤ 1000 ∧ i.natAbs.log2 < 2000)
def D.int? : D → Option Int
  | .int i => some i | _ => none
def D.bl? : D → Option Bool
  | .bl b => some b | _ => none
def D.str? : D → Option Str
  | .str x => some x | _ => none
def binop (op : Bop) (m : Bool) (S : Store) (x y : D) : R D :=
  match op, x, y with
  | .add, .int i, .int j => .ok (.int (i + j)) S
  | .sub, .int i, .int j => .ok (.int (i - j)) S
  | .mul, .int i, .int j => okIf (mulOk i j) (.ok (.int (i * j)) S)
  | .fdiv, .int i, .int j => okIf (divOk j) (.ok (.int (i / j)) S)
  | .mod, .int i, .int j => okIf (decide (0 < j)) (.ok (.int (i % j)) S)
  | .pow, .int i, .int j => okIf (powOk i j) (.ok (.int (i ^ j.toNat)) S)
  | .add, .str i, .str j => okIf (decide (i.length + j.length ≤ sizeLine)) (.ok (.str (i ++ j)) S)
  | .add, .tup xs, .tup ys => okIf (decide (xs.length + ys.length ≤ sizeLine)) (.ok (.tup (xs ++ ys)) S)
  | .mul, .tup xs, .int k => okIf (decide (1 ≤ k ∧ k ≤ 1000 ∧ xs.length ≤ 1000 ∧ 0 < xs.length)) (.ok (.tup (List.replicate k.toNat xs).flatten) S)
  | .add, a, b => match a.list? S, b.list? S with
    | some xs, some ys => okIf (decide (xs.length + ys.length ≤ sizeLine)) (mk m (.lst (xs ++ ys)) S)
    | _, _ => .stuck
  | .mul, a, .int k => match a.list? S with
    | some xs => okIf (decide (0 ≤ k ∧ k ≤ 1000 ∧ xs.length ≤ 1000)) (mk m (.lst (List.replicate k.toNat xs).flatten) S)
    | none => .stuck
  | _, _, _ => .stuck
def D.isNon : D → Bool
  | .non => true | _ => false
/-- x < y, where they are of kinds that are ordered -/
def D.lt? (S : Store) (x y : D) : Option Bool := match D.rd S x, D.rd S y with
  | some a, some b => if (W.alike a.toPy b.toPy && a.cmpOk && b.cmpOk && !a.isNon) = true then some (W.dataLt a.toPy b.toPy) else none
  | _, _ => none
/-- == of two values -/
def D.eq? (S : Store) (x y : D) : Option Bool := match D.rd S x, D.rd S y with
  | some a, some b => if (a.cmpOk && b.cmpOk) = true then some (a.eqv b) else none
  | _, _ => none
def D.isin? (S : Store) (x y : D) : Option Bool := match y.dict? S with
  | some (t, kvs) => if x.isKey t = true then some (dlook kvs x).isSome else none
  | none => match y.seq? S with
    | some ys => match D.rd S x, D.rds S ys with
      | some a, some bs => if (a.cmpOk && bs.all D.cmpOk) = true then some (bs.any fun b => b.eqv a) else none
      | _, _ => none
    | none => none
def cmpop (op : Cop) (S : Store) (x y : D) : Option Bool :=
  match op with
  | .eq => D.eq? S x y
  | .ne => (D.eq? S x y).map not
  | .lt => D.lt? S x y
  | .ge => (D.lt? S x y).map not
  | .gt => D.lt? S y x
  | .le => (D.lt? S y x).map not
  | .isin => D.isin? S x y
  | .nin => (D.isin? S x y).map not
  | .is => match x, y with
    | .non, .non => some true
    | .bl a, .bl b => some (decide (a = b))
    | _, .non => some false
    | _, _ => none
  | .isn => match x, y with
    | .non, .non => some false
    | .bl a, .bl b => some (!decide (a = b))
    | _, .non => some true
    | _, _ => none
def D.ty? (S : Store) : D → Option Ty
  | .bl _ => some .bool | .int _ => some .int | .str _ => some .str | .tup _ => some .tuple | .lst _ => some .list | .dct _ _ => some .dict
  | .non => none
  | .ref i => match S[i]?.map Ob.inner with
    | some (.lst _) => some .list
    | some (.dct _ _) => some .dict
    | _ => none
def Ty.sub : Ty → Ty → Bool
  | .int, .int => true | .bool, .bool => true | .bool, .int => true | .str, .str => true | .tuple, .tuple => true | .list, .list => true | .dict, .dict => true | _, _ => false
def D.isinst? (S : Store) (T : Ty) (d : D) : Option Bool := if d.isNon = true then some false else (d.ty? S).map fun U => U.sub T
/-- all are tuples with an item at least, or none is a tuple or None -/
def sortable (xs : List D) : Bool := (xs.all fun d => match d with | .tup (_ :: _) => true | _ => false) || (xs.all fun d => match d with | .tup _ => false | .non => false | _ => true)
def dLe (a b : D) : Bool := !W.dataLt b.toPy a.toPy
/-- sorted, of what can be sorted here -/
def sortD (xs : List D) : Option (List D) :=
  if xs.length < 2 then some xs
  else if ((xs.all fun a => a.cmpOk && xs.all fun b => W.alike a.toPy b.toPy) && sortable xs) = true then some (xs.mergeSort dLe) else none
def minI : List Int → Option Int
  | [] => none
  | x :: xs => some (xs.foldl (fun a b => if b < a then b else a) x)
def maxI : List Int → Option Int
  | [] => none
  | x :: xs => some (xs.foldl (fun a b => if b > a then b else a) x)
/-- dict(pairs) -/
def pairs? : List D → Option (List (D × D))
  | [] => some []
  | .tup [k, v] :: r => (pairs? r).map ((k, v) :: ·)
  | _ => none
def prim (p : Pr) (m : Bool) (S : Store) (args : List D) : R D :=
  match p, args with
  | .len, [d] => match d.str? with
    | some x => okIf (decide (x.length ≤ sizeLine)) (.ok (.int x.length) S)
    | none => match d.seq? S with
      | some xs => .ok (.int xs.length) S
      | none => match d.dict? S with
        | some (_, kvs) => .ok (.int kvs.length) S
        | none => .stuck
  | .isinst T, [d] => match d.isinst? S T with
    | some b => .ok (.bl b) S
    | none => .stuck
  | .tuple, [d] => match d.seq? S with
    | some xs => .ok (.tup xs) S
    | none => .stuck
  | .list, [d] => match d.seq? S with
    | some xs => mk m (.lst xs) S
    | none => .stuck
  | .sorted, [d] => match d.dict? S with
    | some (true, kvs) => match sortD (kvs.map (·.1)) with
      | some ys => mk m (.lst ys) S
      | none => .stuck
    | some (false, _) => .stuck
    | none => match d.list? S with
      | some xs => match sortD xs with
        | some ys => mk m (.lst ys) S
        | none => .stuck
      | none => .stuck
  | .str, [d] => match d.int? with
    | some i => okIf (decide (i.natAbs.log2 < 1920)) (.ok (.str (Str.ofString (toString i))) S)
    | none => .stuck
  | .int, [d] => match d.int? with
    | some i => .ok (.int i) S
    | none => match d.bl? with
      | some b => .ok (.int (if b then 1 else 0)) S
      | none => .stuck
  | .min2, [d, e] => match d.int?, e.int? with
    | some i, some j => .ok (.int (if j < i then j else i)) S
    | _, _ => .stuck
  | .max2, [d, e] => match d.int?, e.int? with
    | some i, some j => .ok (.int (if j > i then j else i)) S
    | _, _ => .stuck
  | .minL, [d] => match (d.list? S).bind fun xs => (xs.mapM D.int?).bind minI with
    | some i => .ok (.int i) S
    | none => .stuck
  | .maxL, [d] => match (d.list? S).bind fun xs => (xs.mapM D.int?).bind maxI with
    | some i => .ok (.int i) S
    | none => .stuck
  | .sumL, [d] => match (d.list? S).bind fun xs => xs.mapM D.int? with
    | some ns => .ok (.int ns.sum) S
    | none => .stuck
  | .abs, [d] => match d.int? with
    | some i => .ok (.int (if i < 0 then -i else i)) S
    | none => .stuck
  | _, _ => .stuck
/-- is it of the type that has the method? -/
def Me.recv (me : Me) (S : Store) (x : D) : Bool := match me with
  | .get1 => (x.dict? S).isSome | .get2 => (x.dict? S).isSome | .setdef => (x.dict? S).isSome | .popD => (x.dict? S).isSome | .popD2 => (x.dict? S).isSome
  | _ => (x.list? S).isSome
def setOb (S : Store) (i : Nat) (o : Ob) : Store := S.set i o
def meth (me : Me) (m : Bool) (S : Store) (o : D) (args : List D) : R D :=
  match me, args with
  | .get1, [k] => match o.dict? S with
    | some (t, kvs) => okIf (k.isKey t) (.ok ((dlook kvs k).getD .non) S)
    | none => .stuck
  | .get2, [k, x] => match o.dict? S with
    | some (t, kvs) => okIf (k.isKey t) (.ok ((dlook kvs k).getD x) S)
    | none => .stuck
  | .setdef, [k, x] => match o with
    | .ref i => match S[i]? with
      | some (.dct t kvs) => okIf (k.isKey t && decide (kvs.length < sizeLine)) (match dlook kvs k with
        | some v => .ok v S
        | none => .ok x (S.set i (.dct t (dput kvs k x))))
      | _ => .stuck
    | _ => .stuck
  | .append, [x] => match o with
    | .ref i => match S[i]? with
      | some (.lst xs) => okIf (decide (xs.length < sizeLine)) (.ok .non (S.set i (.lst (xs ++ [x]))))
      | _ => .stuck
    | _ => .stuck
  | .clear, [] => match o with
    | .ref i => match S[i]? with
      | some (.lst _) => .ok .non (S.set i (.lst []))
      | _ => .stuck
    | _ => .stuck
  | .extend, [d] => match o with
    | .ref i => match S[i]?, d.list? S with
      | some (.lst xs), some ys => okIf (decide (xs.length + ys.length ≤ sizeLine)) (.ok .non (S.set i (.lst (xs ++ ys))))
      | _, _ => .stuck
    | _ => .stuck
  | .pop0, [] => match o with
    | .ref i => match S[i]? with
      | some (.lst xs) => match xs[xs.length - 1]? with
        | some x => .ok x (S.set i (.lst xs.dropLast))
        | none => .stuck
      | _ => .stuck
    | _ => .stuck
  | _, _ => .stuck
def index (S : Store) (a i : D) : Option D :=
  match a.dict? S with
  | some (t, kvs) => if i.isKey t = true then dlook kvs i else none
  | none => match a.seq? S, i with
    | some xs, .int k => L2.atI xs k
    | _, _ => none
def cutD (xs : List D) (lo hi : Option Int) : List D := (xs.drop (HT.sIx xs.length 0 lo)).take (HT.sIx xs.length xs.length hi - HT.sIx xs.length 0 lo)
def slice (m : Bool) (S : Store) (a : D) (lo hi : Option Int) : R D :=
  match a with
  | .tup xs => .ok (.tup (cutD xs lo hi)) S
  | a => match a.list? S with
    | some xs => mk m (.lst (cutD xs lo hi)) S
    | none => .stuck
def setIdx (S : Store) (o i v : D) : Option Store :=
  match o with
  | .ref r => match S[r]? with
    | some (.lst xs) => match i with
      | .int k => (L2.ixN xs.length k).map fun j => S.set r (.lst (xs.set j v))
      | _ => none
    | some (.dct t kvs) => if (i.isKey t && decide (kvs.length < sizeLine)) = true then some (S.set r (.dct t (dput kvs i v))) else none
    | _ => none
  | _ => none
mutual
def bindT : Tg → D → DEnv → Option DEnv
  | .nm i, d, σ => if i < σ.length then some (σ.set i (some d)) else none
  | .tup ts, .tup xs, σ => bindTs ts xs σ
  | _, _, _ => none
def bindTs : Tg → List D → DEnv → Option DEnv
  | .nil, [], σ => some σ
  | .cons t ts, x :: xs, σ => (bindT t x σ).bind fun σ' => bindTs ts xs σ'
  | _, _, _ => none
end
def wipeD (σ : DEnv) : List Nat → DEnv
  | [] => σ
  | v :: vs => (wipeD σ vs).set v none

/-! ### the evaluator -/
structure Cxt where
  call : Nat → List D → Res
  callS : Nat → List D → Store → R D
  fuel : Nat
/-- the items of what is walked: of what is never changed, or locked -/
def itemsOf (S : Store) (d : D) : Option (List D) :=
  match d with
  | .lst xs => some xs
  | .tup xs => some xs
  | .ref i => match S[i]? with
    | some (.lck o) => match o.inner with
      | .lst xs => some xs
      | .dct _ kvs => if kvs.length ≤ sizeLine then some (kvs.map (·.1)) else none
      | .lck _ => none
    | _ => none
  | _ => none
def lockEnd {α : Type} (good : α → Bool) (r : R α) (i : Nat) (o : Ob) : R α := match r with
  | .ok a S' => okIf (good a) (.ok a (S'.set i o))
  | _ => .stuck
/-- run while the object i, that is open, is locked; no exception leaves meanwhile -/
def lockRun {α : Type} (good : α → Bool) (lk : Option Nat) (S : Store) (f : Store → R α) : R α := match lk with
  | none => f S
  | some i => match S[i]? with
    | some (.lst xs) => lockEnd good (f (S.set i (.lck (.lst xs)))) i (.lst xs)
    | some (.dct t kvs) => lockEnd good (f (S.set i (.lck (.dct t kvs)))) i (.dct t kvs)
    | _ => f S
def intsFrom (lo : Int) (n : Nat) : List D := (List.range n).map fun (k : Nat) => D.int (lo + k)
def enumFrom : Nat → List D → List D
  | _, [] => []
  | n, x :: xs => .tup [.int (n : Nat), x] :: enumFrom (n + 1) xs
/-- range, enumerate, .. walked -/
def itK (k : ItK) (xs : List D) (S1 : Store) : R (List D) := match k, xs with
  | .range1, [d] => match d.int? with
    | some j => okIf (decide (-(2 ^ 62) ≤ j ∧ j ≤ sizeLine)) (.ok (intsFrom 0 j.toNat) S1)
    | none => .stuck
  | .range2, [d, e] => match d.int?, e.int? with
    | some i, some j => okIf (decide (-(2 ^ 62) ≤ i ∧ i < 2 ^ 62 ∧ -(2 ^ 62) ≤ j ∧ j < 2 ^ 62 ∧ j - i ≤ sizeLine)) (.ok (intsFrom i (j - i).toNat) S1)
    | _, _ => .stuck
  | .enum, [d] => match itemsOf S1 d with
    | some ys => .ok (enumFrom 0 ys) S1
    | none => .stuck
  | .zip, [d, e] => match itemsOf S1 d, itemsOf S1 e with
    | some ys, some zs => .ok (List.zipWith (fun y z => D.tup [y, z]) ys zs) S1
    | _, _ => .stuck
  | .rev, [d] => match itemsOf S1 d with
    | some ys => .ok ys.reverse S1
    | none => .stuck
  | _, _ => .stuck
/-- the items x of xs that pass, each made into elt -/
def compGo (tg : Tg) (test : DEnv → Store → R Bool) (elt : DEnv → Store → R D) : List D → DEnv → Store → R (List D)
  | [], _, S => .ok [] S
  | x :: xs, σ, S => match bindT tg x σ with
    | none => .stuck
    | some σ' => (test σ' S).bind fun b S1 => if b then (elt σ' S1).bind fun y S2 => (compGo tg test elt xs σ S2).bind fun ys S3 => .ok (y :: ys) S3
      else compGo tg test elt xs σ S1
/-- an optional bound of a slice -/
def optI (e : E) (r : R D) (S : Store) : R (Option Int) := match e with
  | .no => .ok none S
  | _ => r.bind fun d S => match d with
    | .int i => .ok (some i) S
    | _ => .stuck
/-- what is walked -/
def walkI (it : E) (r : R D) : R (List D) := match it with
  | .iter k _ => r.bind fun d S1 => match d with
    | .tup xs => itK k xs S1
    | _ => .stuck
  | _ => r.bind fun d S1 => match itemsOf S1 d with
    | some xs => .ok xs S1
    | none => .stuck
/-- the pairs of a dict's display -/
def pairsOf : List D → Option (List (D × D))
  | [] => some []
  | k :: v :: r => (pairsOf r).map ((k, v) :: ·)
  | [_] => none
def dictOf (t : Bool) (xs : List D) : Option (List (D × D)) := match pairsOf xs with
  | some ps => if (ps.all fun p => p.1.isKey t) = true then some (ps.foldl (fun d p => dput d p.1 p.2) []) else none
  | none => none
/-- [::-1] -/
def backOf (m : Bool) (S : Store) (a : D) : R D := match a with
  | .tup xs => .ok (.tup xs.reverse) S
  | a => match a.list? S with
    | some xs => mk m (.lst xs.reverse) S
    | none => .stuck
def noExc {α : Type} (r : R α) : R α := match r with
  | .exc _ _ => .stuck
  | r => r
/-- the object of the store that is walked by its name: locked meanwhile -/
def lockOf : E → DEnv → Option Nat
  | .var v, σ => match σ[v]? with
    | some (some (.ref i)) => some i
    | _ => none
  | .iter _ (.cons (.var v) .nil), σ => match σ[v]? with
    | some (some (.ref i)) => some i
    | _ => none
  | _, _ => none
mutual
def evalE (cx : Cxt) : E → DEnv → Store → R D
  | .var i, σ, S => match σ[i]? with
    | some (some d) => .ok d S
    | _ => .stuck
  | .int i, _, S => .ok (.int i) S
  | .bl b, _, S => .ok (.bl b) S
  | .str x, _, S => .ok (.str x) S
  | .non, _, S => .ok .non S
  | .glob _ d, _, S => .ok d S
  | .bin op m a b, σ, S => (evalE cx a σ S).bind fun x S1 => (evalE cx b σ S1).bind fun y S2 => binop op m S2 x y
  | .neg a, σ, S => (evalE cx a σ S).bind fun x S1 => match x with
    | .int i => .ok (.int (-i)) S1
    | _ => .stuck
  | .not a, σ, S => (evalE cx a σ S).bind fun x S1 => match x with
    | .bl b => .ok (.bl (!b)) S1
    | _ => .stuck
  | .cmp op a b, σ, S => (evalE cx a σ S).bind fun x S1 => (evalE cx b σ S1).bind fun y S2 => match cmpop op S2 x y with
    | some r => .ok (.bl r) S2
    | none => .stuck
  | .chain o1 o2 a b c, σ, S => (evalE cx a σ S).bind fun x S1 => (evalE cx b σ S1).bind fun y S2 => match cmpop o1 S2 x y with
    | some true => (evalE cx c σ S2).bind fun z S3 => match cmpop o2 S3 y z with
      | some r => .ok (.bl r) S3
      | none => .stuck
    | some false => .ok (.bl false) S2
    | none => .stuck
  | .and a b, σ, S => (evalE cx a σ S).bind fun x S1 => match x with
    | .bl true => evalE cx b σ S1
    | .bl false => .ok (.bl false) S1
    | _ => .stuck
  | .or a b, σ, S => (evalE cx a σ S).bind fun x S1 => match x with
    | .bl true => .ok (.bl true) S1
    | .bl false => evalE cx b σ S1
    | _ => .stuck
  | .ite c a b, σ, S => (evalE cx c σ S).bind fun x S1 => match x with
    | .bl true => evalE cx a σ S1
    | .bl false => evalE cx b σ S1
    | _ => .stuck
  | .tup es, σ, S => (evalEs cx es σ S).bind fun xs S1 => okIf (decide (xs.length ≤ sizeLine)) (.ok (.tup xs) S1)
  | .lst m es, σ, S => (evalEs cx es σ S).bind fun xs S1 => okIf (decide (xs.length ≤ sizeLine)) (mk m (.lst xs) S1)
  | .dict m t kvs, σ, S => (evalEs cx kvs σ S).bind fun xs S1 => match dictOf t xs with
    | some kvs => mk m (.dct t kvs) S1
    | none => .stuck
  | .idx a i, σ, S => (evalE cx a σ S).bind fun x S1 => (evalE cx i σ S1).bind fun y S2 => match index S2 x y with
    | some d => .ok d S2
    | none => .stuck
  | .slice m a lo hi, σ, S => (evalE cx a σ S).bind fun x S1 => (optI lo (evalE cx lo σ S1) S1).bind fun l S2 => (optI hi (evalE cx hi σ S2) S2).bind fun h S3 => slice m S3 x l h
  | .back m a, σ, S => (evalE cx a σ S).bind fun x S1 => backOf m S1 x
  | .comp m elt tg it ifs own, σ, S => lockRun (fun _ => true) (lockOf it σ) S fun S0 => (walkI it (evalE cx it σ S0)).bind fun xs S1 =>
      (noExc (compGo tg (evalC cx ifs) (evalE cx elt) xs (wipeD σ own) S1)).bind fun ys S3 => mk m (.lst ys) S3
  | .call f m es, σ, S => (evalEs cx es σ S).bind fun xs S1 => match D.rds S1 xs with
    | none => .stuck
    | some as => match cx.call f as with
      | .val d => okIf (D.noRefs xs || d.flat) (.ok d S1)
      | .new (.lst ys) => okIf (D.noRefs xs || D.flats ys) (mk m (.lst ys) S1)
      | .new (.dct t kvs) => okIf (D.noRefs xs || D.flatKs kvs) (mk m (.dct t kvs) S1)
      | .new (.lck _) => .stuck
      | .exc c => .exc c S1
      | .stuck => .stuck
  | .callS f es, σ, S => (evalEs cx es σ S).bind fun xs S1 => cx.callS f xs S1
  | .prim p m es, σ, S => (evalEs cx es σ S).bind fun xs S1 => prim p m S1 xs
  | .meth me m o es, σ, S => (evalE cx o σ S).bind fun x S1 => okIf (me.recv S1 x) ((evalEs cx es σ S1).bind fun xs S2 => meth me m S2 x xs)
  | .iter _ es, σ, S => (evalEs cx es σ S).bind fun xs S1 => .ok (.tup xs) S1
  | .no, _, _ => .stuck
  | .nil, _, _ => .stuck
  | .cons _ _, _, _ => .stuck
/-- a list of expressions -/
def evalEs (cx : Cxt) : E → DEnv → Store → R (List D)
  | .cons e es, σ, S => (evalE cx e σ S).bind fun x S1 => (evalEs cx es σ S1).bind fun xs S2 => .ok (x :: xs) S2
  | .nil, _, S => .ok [] S
  | _, _, _ => .stuck
/-- the tests of a comprehension -/
def evalC (cx : Cxt) : E → DEnv → Store → R Bool
  | .nil, _, S => .ok true S
  | .cons e es, σ, S => (evalE cx e σ S).bind fun x S1 => match x with
    | .bl true => evalC cx es σ S1
    | .bl false => .ok false S1
    | _ => .stuck
  | _, _, _ => .stuck
end

/-! ### statements -/
inductive Fl where
  | nx | rt (d : D) | ex (c : Str)
def noEx (p : Fl × DEnv) : Bool := match p.1 with
  | .ex _ => false
  | _ => true
/-- an expression within a statement -/
def R.lift {α : Type} (r : R α) (σ : DEnv) (f : α → Store → R (Fl × DEnv)) : R (Fl × DEnv) := match r with
  | .ok a S => f a S
  | .exc c S => .ok (.ex c, σ) S
  | .stuck => .stuck
/-- go on where the code went on -/
def R.andThen (r : R (Fl × DEnv)) (f : DEnv → Store → R (Fl × DEnv)) : R (Fl × DEnv) := match r with
  | .ok (.nx, σ) S => f σ S
  | r => r
def forGo (tg : Tg) (body : DEnv → Store → R (Fl × DEnv)) : List D → DEnv → Store → R (Fl × DEnv)
  | [], σ, S => .ok (.nx, σ) S
  | x :: xs, σ, S => match bindT tg x σ with
    | none => .stuck
    | some σ' => (body σ' S).andThen fun σ1 S1 => forGo tg body xs σ1 S1
def whileGo (c : DEnv → Store → R D) (body : DEnv → Store → R (Fl × DEnv)) : Nat → DEnv → Store → R (Fl × DEnv)
  | 0, _, _ => .stuck
  | n + 1, σ, S => (c σ S).lift σ fun x S1 => match x with
    | .bl true => (body σ S1).andThen fun σ1 S2 => whileGo c body n σ1 S2
    | .bl false => .ok (.nx, σ) S1
    | _ => .stuck
def evalS (cx : Cxt) : St → DEnv → Store → R (Fl × DEnv)
  | .nop, σ, S => .ok (.nx, σ) S
  | .seq a b, σ, S => (evalS cx a σ S).andThen fun σ1 S1 => evalS cx b σ1 S1
  | .set tg e, σ, S => (evalE cx e σ S).lift σ fun d S1 => match bindT tg d σ with
    | some σ1 => .ok (.nx, σ1) S1
    | none => .stuck
  | .setIdx o i v, σ, S => (evalE cx v σ S).lift σ fun d S1 => (evalE cx o σ S1).lift σ fun x S2 => (evalE cx i σ S2).lift σ fun y S3 => match setIdx S3 x y d with
    | some S4 => .ok (.nx, σ) S4
    | none => .stuck
  | .expr e, σ, S => (evalE cx e σ S).lift σ fun _ S1 => .ok (.nx, σ) S1
  | .ite c a b, σ, S => (evalE cx c σ S).lift σ fun x S1 => match x with
    | .bl true => evalS cx a σ S1
    | .bl false => evalS cx b σ S1
    | _ => .stuck
  | .for tg it body, σ, S => lockRun noEx (lockOf it σ) S fun S0 => (walkI it (evalE cx it σ S0)).lift σ fun xs S1 => forGo tg (evalS cx body) xs σ S1
  | .while c body, σ, S => whileGo (evalE cx c) (evalS cx body) cx.fuel σ S
  | .ret e, σ, S => (evalE cx e σ S).lift σ fun d S1 => .ok (.rt d, σ) S1
  | .retN, σ, S => .ok (.rt .non, σ) S
  | .raise c, σ, S => .ok (.ex c, σ) S
/-- as rdN, without the object x -/
def rdX (x : Nat) : Nat → Store → Nat → Option D
  | 0, _, _ => none
  | n + 1, S, i => if i = x then none else match S[i]?.map Ob.inner with
    | some (.lst xs) => (D.subs (rdX x n S) xs).map D.lst
    | some (.dct t kvs) => (D.subks (rdX x n S) kvs).map (D.dct t)
    | _ => none
/-- what is handed back: what is not known outside is frozen -/
def finish (S : Store) (d : D) : Res := match d with
  | .ref i => match S[i]? with
    | some (.lst xs) => match D.subs (rdX i 8 S) xs with
      | some ys => .new (.lst ys)
      | none => .stuck
    | some (.dct t kvs) => match D.subks (rdX i 8 S) kvs with
      | some ys => .new (.dct t ys)
      | none => .stuck
    | _ => .stuck
  | d => match D.rd S d with
    | some d' => .val d'
    | none => .stuck
def runFn (cx : Cxt) (f : Fn) (args : List D) : Res :=
  if args.length = f.arity then
    match evalS cx f.body (args.map some ++ List.replicate (f.slots - f.arity) none) [] with
    | .ok (.rt d, _) S => finish S d
    | .ok (.nx, _) _ => .val .non
    | .ok (.ex c, _) _ => .exc c
    | _ => .stuck
  else .stuck
/-- .. in the caller's store -/
def runFnS (cx : Cxt) (f : Fn) (args : List D) (S : Store) : R D :=
  if args.length = f.arity then
    match evalS cx f.body (args.map some ++ List.replicate (f.slots - f.arity) none) S with
    | .ok (.rt d, _) S' => .ok d S'
    | .ok (.nx, _) S' => .ok .non S'
    | .ok (.ex c, _) S' => .exc c S'
    | _ => .stuck
  else .stuck
/-- the calls to the depth l -/
def cxt (T : Nat → Option Fn) (fuel : Nat) : Nat → Cxt
  | 0 => ⟨fun _ _ => .stuck, fun _ _ _ => .stuck, fuel⟩
  | l + 1 => ⟨fun f args => match T f with
    | some fn => runFn (cxt T fuel l) fn args
    | none => .stuck, fun f args S => match T f with
    | some fn => runFnS (cxt T fuel l) fn args S
    | none => .stuck, fuel⟩
end DD

namespace DD
open PySem PySem.Spec PyProof.Rows L2

def keyD : Key → D
  | .inl i => .int i
  | .inr x => .str x
/-- an immutable tuple, list at a: read there; not one of those that are changed (β) -/
def ImT (K : PySem.W.Frag) (β : Addr → Prop) (H : Hp) (a : Addr) (vs : List V) : Prop :=
  vs.length ≤ sizeLine ∧ ((Rd H a (.tup vs) ∧ ¬ β a) ∨ (H a = none ∧ SqT K (fun _ => none) a vs ∧ ¬ β a))
def ImL (K : PySem.W.Frag) (β : Addr → Prop) (H : Hp) (a : Addr) (vs : List V) : Prop :=
  vs.length ≤ sizeLine ∧ ((Rd H a (.lst vs) ∧ ¬ β a) ∨ (SqL K (fun _ => none) a vs))
/-- the addresses that are changed: the callers', and those of this store -/
def Bad (β : Addr → Prop) (ρ : List Addr) : Addr → Prop := fun a => β a ∨ a ∈ ρ
mutual
inductive RV (K : PySem.W.Frag) (β : Addr → Prop) (ρ : List Addr) (H : Hp) : D → V → Prop
  | non : RV K β ρ H .non .non
  | bl (b : Bool) : RV K β ρ H (.bl b) (.bl b)
  | int (i : Int) : RV K β ρ H (.int i) (.int i)
  | str (x : Str) : RV K β ρ H (.str x) (.str x)
  | tup {a : Addr} {vs : List V} {ds : List D} : H a = some (.tup vs) → vs.length ≤ sizeLine → RVs K β ρ H ds vs → RV K β ρ H (.tup ds) (.ref a)
  | lst {a : Addr} {vs : List V} {ds : List D} : ImL K (Bad β ρ) H a vs → RVs K β ρ H ds vs → RV K β ρ H (.lst ds) (.ref a)
  | dT {a : Addr} {hk : List (List Key × V)} {kvs : List (D × D)} : Rd H a (.dT hk) → ¬ Bad β ρ a → RKT K β ρ H kvs hk → RV K β ρ H (.dct true kvs) (.ref a)
  | dK {a : Addr} {hk : List (Key × V)} {kvs : List (D × D)} : Rd H a (.dK hk) → ¬ Bad β ρ a → RKK K β ρ H kvs hk → RV K β ρ H (.dct false kvs) (.ref a)
  | ref {i : Nat} {a : Addr} : ρ[i]? = some a → RV K β ρ H (.ref i) (.ref a)
inductive RVs (K : PySem.W.Frag) (β : Addr → Prop) (ρ : List Addr) (H : Hp) : List D → List V → Prop
  | nil : RVs K β ρ H [] []
  | cons {d : D} {v : V} {ds : List D} {vs : List V} : RV K β ρ H d v → RVs K β ρ H ds vs → RVs K β ρ H (d :: ds) (v :: vs)
inductive RKT (K : PySem.W.Frag) (β : Addr → Prop) (ρ : List Addr) (H : Hp) : List (D × D) → List (List Key × V) → Prop
  | nil : RKT K β ρ H [] []
  | cons {k : List Key} {d : D} {v : V} {kvs : List (D × D)} {hk : List (List Key × V)} : k.length ≤ sizeLine → RV K β ρ H d v → RKT K β ρ H kvs hk → RKT K β ρ H ((.tup (k.map keyD), d) :: kvs) ((k, v) :: hk)
inductive RKK (K : PySem.W.Frag) (β : Addr → Prop) (ρ : List Addr) (H : Hp) : List (D × D) → List (Key × V) → Prop
  | nil : RKK K β ρ H [] []
  | cons {k : Key} {d : D} {v : V} {kvs : List (D × D)} {hk : List (Key × V)} : RV K β ρ H d v → RKK K β ρ H kvs hk → RKK K β ρ H ((keyD k, d) :: kvs) ((k, v) :: hk)
end

/-- what stays from one point of the run to a later one -/
structure Keep (ρ : List Addr) (H : Hp) (ρ' : List Addr) (H' : Hp) : Prop where
  pre : ∃ l, ρ' = ρ ++ l
  same : ∀ b o, H b = some o → b ∉ ρ → H' b = some o
  frz : ∀ b o u, H b = some (.frz o u) → H' b = some (.frz o u)
  tups : ∀ b vs, H b = some (.tup vs) → H' b = some (.tup vs)
  new : ∀ b ∈ ρ', b ∉ ρ → H b = none
theorem Keep.refl (ρ : List Addr) (H : Hp) : Keep ρ H ρ H := ⟨⟨[], by simp⟩, fun _ _ h _ => h, fun _ _ _ h => h, fun _ _ h => h, fun b h1 h2 => absurd h1 h2⟩
theorem Keep.mem {ρ ρ' : List Addr} {H H' : Hp} (k : Keep ρ H ρ' H') {b : Addr} (h : b ∈ ρ) : b ∈ ρ' := by
  obtain ⟨l, rfl⟩ := k.pre
  exact List.mem_append_left _ h
theorem Keep.notMem {ρ ρ' : List Addr} {H H' : Hp} (k : Keep ρ H ρ' H') {b : Addr} {o : HO} (h : H b = some o) (hn : b ∉ ρ) : b ∉ ρ' := fun h' => by
  have := k.new b h' hn
  rw [h] at this
  cases this
theorem Keep.trans {ρ ρ1 ρ2 : List Addr} {H H1 H2 : Hp} (a : Keep ρ H ρ1 H1) (b : Keep ρ1 H1 ρ2 H2) : Keep ρ H ρ2 H2 := by
  refine ⟨?_, fun c o h hn => b.same c o (a.same c o h hn) (a.notMem h hn), fun c o u h => b.frz c o u (a.frz c o u h), fun c vs h => b.tups c vs (a.tups c vs h), fun c h1 h2 => ?_⟩
  · obtain ⟨l, e⟩ := a.pre
    obtain ⟨l', e'⟩ := b.pre
    exact ⟨l ++ l', by rw [e', e, List.append_assoc]⟩
  · by_cases hc : c ∈ ρ1
    · exact a.new c hc h2
    · have := b.new c h1 hc
      cases q : H c with
      | none => rfl
      | some o =>
        rw [a.same c o q h2] at this
        cases this
theorem Keep.get {ρ ρ' : List Addr} {H H' : Hp} (k : Keep ρ H ρ' H') {i : Nat} {a : Addr} (h : ρ[i]? = some a) : ρ'[i]? = some a := by
  obtain ⟨l, rfl⟩ := k.pre
  rw [List.getElem?_append_left (List.getElem?_eq_some_iff.mp h).1]
  exact h
theorem Keep.rd {ρ ρ' : List Addr} {H H' : Hp} (k : Keep ρ H ρ' H') {β : Addr → Prop} {a : Addr} {u : HO} (h : Rd H a u) (hn : ¬ Bad β ρ a) : Rd H' a u ∧ ¬ Bad β ρ' a := by
  have hb : ¬ β a := fun z => hn (.inl z)
  have hr : a ∉ ρ := fun z => hn (.inr z)
  rcases h with h | ⟨o, h⟩
  · exact ⟨.inl (k.same a u h hr), fun z => z.elim hb (k.notMem h hr)⟩
  · exact ⟨.inr ⟨o, k.frz a o u h⟩, fun z => z.elim hb (k.notMem h hr)⟩
section
variable {K : PySem.W.Frag} {β : Addr → Prop} {ρ ρ' : List Addr} {H H' : Hp}
theorem ImL.keep (k : Keep ρ H ρ' H') {a : Addr} {vs : List V} (h : ImL K (Bad β ρ) H a vs) : ImL K (Bad β ρ') H' a vs := by
  obtain ⟨z, ⟨h1, h2⟩ | h1⟩ := h
  · exact ⟨z, .inl (k.rd h1 h2)⟩
  · exact ⟨z, .inr h1⟩
theorem ImL.seq {a : Addr} {vs : List V} (h : ImL K β H a vs) : SqL K H a vs := by
  obtain ⟨_, ⟨h1, _⟩ | h1⟩ := h
  · exact .inl h1
  · rcases h1 with h1 | h1
    · rcases h1 with h1 | ⟨_, h1⟩ <;> cases h1
    · exact .inr h1
mutual
theorem RV.keep (k : Keep ρ H ρ' H') : ∀ {d : D} {v : V}, RV K β ρ H d v → RV K β ρ' H' d v
  | _, _, .non => .non
  | _, _, .bl b => .bl b
  | _, _, .int i => .int i
  | _, _, .str x => .str x
  | _, _, .tup h z r => .tup (k.tups _ _ h) z (RVs.keep k r)
  | _, _, .lst h r => .lst (h.keep k) (RVs.keep k r)
  | _, _, .dT h n r => .dT (k.rd h n).1 (k.rd h n).2 (RKT.keep k r)
  | _, _, .dK h n r => .dK (k.rd h n).1 (k.rd h n).2 (RKK.keep k r)
  | _, _, .ref h => .ref (k.get h)
theorem RVs.keep (k : Keep ρ H ρ' H') : ∀ {ds : List D} {vs : List V}, RVs K β ρ H ds vs → RVs K β ρ' H' ds vs
  | _, _, .nil => .nil
  | _, _, .cons h r => .cons (RV.keep k h) (RVs.keep k r)
theorem RKT.keep (k : Keep ρ H ρ' H') : ∀ {ds : List (D × D)} {vs : List (List Key × V)}, RKT K β ρ H ds vs → RKT K β ρ' H' ds vs
  | _, _, .nil => .nil
  | _, _, .cons z h r => .cons z (RV.keep k h) (RKT.keep k r)
theorem RKK.keep (k : Keep ρ H ρ' H') : ∀ {ds : List (D × D)} {vs : List (Key × V)}, RKK K β ρ H ds vs → RKK K β ρ' H' ds vs
  | _, _, .nil => .nil
  | _, _, .cons h r => .cons (RV.keep k h) (RKK.keep k r)
end
theorem RVs.length : ∀ {ds : List D} {vs : List V}, RVs K β ρ H ds vs → ds.length = vs.length
  | _, _, .nil => rfl
  | _, _, .cons _ r => congrArg (· + 1) (RVs.length r)
theorem RVs.get : ∀ {ds : List D} {vs : List V} {i : Nat} {d : D}, RVs K β ρ H ds vs → ds[i]? = some d → ∃ v, vs[i]? = some v ∧ RV K β ρ H d v
  | _, _, _, _, .nil, e => by simp at e
  | _, _, 0, _, .cons h _, e => by simp at e; subst e; exact ⟨_, rfl, h⟩
  | _, _, i + 1, _, .cons _ r, e => by
    obtain ⟨v, e1, e2⟩ := RVs.get (i := i) r (by simpa using e)
    exact ⟨v, by simpa using e1, e2⟩
theorem RVs.append : ∀ {ds es : List D} {vs us : List V}, RVs K β ρ H ds vs → RVs K β ρ H es us → RVs K β ρ H (ds ++ es) (vs ++ us)
  | _, _, _, _, .nil, s => s
  | _, _, _, _, .cons h r, s => .cons h (RVs.append r s)
theorem RVs.take : ∀ {ds : List D} {vs : List V} (n : Nat), RVs K β ρ H ds vs → RVs K β ρ H (ds.take n) (vs.take n)
  | _, _, 0, _ => .nil
  | _, _, _ + 1, .nil => .nil
  | _, _, n + 1, .cons h r => .cons h (RVs.take n r)
theorem RVs.drop : ∀ {ds : List D} {vs : List V} (n : Nat), RVs K β ρ H ds vs → RVs K β ρ H (ds.drop n) (vs.drop n)
  | _, _, 0, r => r
  | _, _, _ + 1, .nil => .nil
  | _, _, n + 1, .cons _ r => RVs.drop n r
theorem RVs.set {d : D} {v : V} (h : RV K β ρ H d v) : ∀ {ds : List D} {vs : List V} (n : Nat), RVs K β ρ H ds vs → RVs K β ρ H (ds.set n d) (vs.set n v)
  | _, _, _, .nil => .nil
  | _, _, 0, .cons _ r => .cons h r
  | _, _, n + 1, .cons g r => .cons g (RVs.set h n r)
theorem RVs.ints : ∀ ns : List Int, RVs K β ρ H (ns.map D.int) (ns.map V.int)
  | [] => .nil
  | n :: ns => .cons (.int n) (RVs.ints ns)
theorem RVs.map_of {α : Type} {f : α → D} {g : α → V} : ∀ xs : List α, (∀ x ∈ xs, RV K β ρ H (f x) (g x)) → RVs K β ρ H (xs.map f) (xs.map g)
  | [], _ => .nil
  | x :: xs, h => .cons (h x List.mem_cons_self) (RVs.map_of xs fun y hy => h y (List.mem_cons_of_mem _ hy))
end

/-- what stands at a tracked address against what stands in the store -/
def RU (K : PySem.W.Frag) (β : Addr → Prop) (ρ : List Addr) (H : Hp) (u : HO) (o : Ob) : Prop :=
  match o with
  | .lst ds => ∃ vs, u = .lst vs ∧ vs.length ≤ sizeLine ∧ RVs K β ρ H ds vs
  | .dct true kvs => ∃ hk, u = .dT hk ∧ RKT K β ρ H kvs hk
  | .dct false kvs => ∃ hk, u = .dK hk ∧ RKK K β ρ H kvs hk
  | .lck _ => False
def RO (K : PySem.W.Frag) (β : Addr → Prop) (ρ : List Addr) (H : Hp) (a : Addr) (o : Ob) : Prop :=
  match o with
  | .lck o => ∃ od u, H a = some (.frz od u) ∧ RU K β ρ H u o.inner
  | o => ∃ u, H a = some u ∧ RU K β ρ H u o
structure Rel (K : PySem.W.Frag) (β : Addr → Prop) (ρ : List Addr) (σd : DEnv) (S : Store) (σ : L2.St) (H : Hp) : Prop where
  len : σd.length = σ.length
  val : ∀ (i : Nat) (d : D), σd[i]? = some (some d) → ∃ v, σ[i]? = some (some v) ∧ RV K β ρ H d v
  nd : ρ.Nodup
  lenS : ρ.length = S.length
  ob : ∀ (i : Nat) (a : Addr) (o : Ob), ρ[i]? = some a → S[i]? = some o → RO K β ρ H a o
  bad : ∀ a, β a → H a ≠ none ∧ a ∉ ρ
section
variable {K : PySem.W.Frag} {β : Addr → Prop} {ρ ρ' : List Addr} {H H' : Hp} {σd : DEnv} {σ : L2.St} {S : Store}
theorem RU.keep (k : Keep ρ H ρ' H') {u : HO} {o : Ob} (h : RU K β ρ H u o) : RU K β ρ' H' u o := by
  cases o with
  | lst ds => obtain ⟨vs, e, z, r⟩ := h; exact ⟨vs, e, z, r.keep k⟩
  | dct t kvs =>
    cases t with
    | true => obtain ⟨hk, e, r⟩ := h; exact ⟨hk, e, r.keep k⟩
    | false => obtain ⟨hk, e, r⟩ := h; exact ⟨hk, e, r.keep k⟩
  | lck o => exact h
theorem RO.there {a : Addr} {o : Ob} (h : RO K β ρ H a o) : H a ≠ none := by
  cases o with
  | lck o => obtain ⟨od, u, e, _⟩ := h; rw [e]; simp
  | lst _ => obtain ⟨u, e, _⟩ := h; rw [e]; simp
  | dct _ _ => obtain ⟨u, e, _⟩ := h; rw [e]; simp
theorem Rel.there (r : Rel K β ρ σd S σ H) {a : Addr} (h : a ∈ ρ) : H a ≠ none := by
  obtain ⟨i, hi, e⟩ := List.getElem_of_mem h
  have hS : i < S.length := by rw [← r.lenS]; exact hi
  exact (r.ob i a S[i] (by rw [List.getElem?_eq_getElem hi, e]) (List.getElem?_eq_getElem hS)).there
theorem Rel.fresh (r : Rel K β ρ σd S σ H) {p : Addr} (hp : H p = none) : ¬ Bad β ρ p := fun z => by
  rcases z with z | z
  · exact (r.bad p z).1 hp
  · exact r.there z hp
/-- an object that is new -/
theorem Keep.upd_new (ρ : List Addr) {p : Addr} {o : HO} (hp : H p = none) : Keep ρ H ρ (upd H p o) :=
  ⟨⟨[], by simp⟩, fun b u h _ => by rw [upd_ne (ne_of_none h hp)]; exact h, fun b u v h => by rw [upd_ne (ne_of_none h hp)]; exact h, fun b vs h => by rw [upd_ne (ne_of_none h hp)]; exact h, fun b h1 h2 => absurd h1 h2⟩
/-- all that the store holds stands as it stood, the values are kept -/
theorem Rel.step {σd' : DEnv} {σ' : L2.St} (r : Rel K β ρ σd S σ H) (k : Keep ρ H ρ H') (hs : ∀ a ∈ ρ, H' a = H a) : Rel K β ρ σd S σ H' := by
  refine ⟨r.len, fun i d h => ?_, r.nd, r.lenS, fun i a o h1 h2 => ?_, fun a h => ⟨?_, (r.bad a h).2⟩⟩
  · obtain ⟨v, e, q⟩ := r.val i d h
    exact ⟨v, e, q.keep k⟩
  · have q := r.ob i a o h1 h2
    have e := hs a (List.mem_of_getElem? h1)
    cases o with
    | lck o => obtain ⟨od, u, e1, e2⟩ := q; exact ⟨od, u, e.trans e1, e2.keep k⟩
    | lst _ => obtain ⟨u, e1, e2⟩ := q; exact ⟨u, e.trans e1, e2.keep k⟩
    | dct _ _ => obtain ⟨u, e1, e2⟩ := q; exact ⟨u, e.trans e1, e2.keep k⟩
  · obtain ⟨h1, h2⟩ := r.bad a h
    cases q : H a with
    | none => exact absurd q h1
    | some o => rw [k.same a o q h2]; simp
theorem Rel.new (r : Rel K β ρ σd S σ H) {p : Addr} {o : HO} (hp : H p = none) : Rel K β ρ σd S σ (upd H p o) :=
  r.step (σd' := σd) (σ' := σ) (Keep.upd_new ρ hp) fun a ha => upd_ne fun e => r.there ha (by rw [e]; exact hp)
/-- a new object of the store -/
theorem Keep.alloc {p : Addr} {u : HO} (hp : H p = none) : Keep ρ H (ρ ++ [p]) (upd H p u) := by
  refine ⟨⟨[p], rfl⟩, fun b o h _ => by rw [upd_ne (ne_of_none h hp)]; exact h, fun b o v h => by rw [upd_ne (ne_of_none h hp)]; exact h, fun b vs h => by rw [upd_ne (ne_of_none h hp)]; exact h, fun b h1 h2 => ?_⟩
  rcases List.mem_append.mp h1 with h | h
  · exact absurd h h2
  · rw [List.mem_singleton.mp h]; exact hp
theorem RO.of {a : Addr} {u : HO} {o : Ob} (h : H a = some u) (hu : RU K β ρ H u o) : RO K β ρ H a o := by
  cases o with
  | lck o => exact hu.elim
  | lst _ => exact ⟨u, h, hu⟩
  | dct _ _ => exact ⟨u, h, hu⟩
theorem Rel.alloc (r : Rel K β ρ σd S σ H) {p : Addr} {u : HO} {o : Ob} (hp : H p = none) (hu : RU K β ρ H u o) : Rel K β (ρ ++ [p]) σd (S ++ [o]) σ (upd H p u) := by
  have k : Keep ρ H (ρ ++ [p]) (upd H p u) := Keep.alloc hp
  have hpn : p ∉ ρ := fun z => r.there z hp
  refine ⟨r.len, fun i d h => ?_, ?_, by simp [r.lenS], fun i a o' h1 h2 => ?_, fun a h => ⟨?_, fun z => ?_⟩⟩
  · obtain ⟨v, e, q⟩ := r.val i d h
    exact ⟨v, e, q.keep k⟩
  · rw [List.nodup_append]
    refine ⟨r.nd, by simp, fun a ha b hb => ?_⟩
    rw [List.mem_singleton.mp hb]
    exact fun e => hpn (e ▸ ha)
  · by_cases hi : i < ρ.length
    · rw [List.getElem?_append_left hi] at h1
      rw [List.getElem?_append_left (by rw [← r.lenS]; exact hi)] at h2
      have q := r.ob i a o' h1 h2
      have hne : a ≠ p := fun e => hpn (e ▸ List.mem_of_getElem? h1)
      cases o' with
      | lck o => obtain ⟨od, w, e1, e2⟩ := q; exact ⟨od, w, by rw [upd_ne hne]; exact e1, e2.keep k⟩
      | lst _ => obtain ⟨w, e1, e2⟩ := q; exact ⟨w, by rw [upd_ne hne]; exact e1, e2.keep k⟩
      | dct _ _ => obtain ⟨w, e1, e2⟩ := q; exact ⟨w, by rw [upd_ne hne]; exact e1, e2.keep k⟩
    · have hi' : i = ρ.length := by
        have := (List.getElem?_eq_some_iff.mp h1).1
        simp at this
        omega
      subst hi'
      rw [List.getElem?_append_right (Nat.le_refl _)] at h1
      rw [List.getElem?_append_right (by rw [r.lenS]; exact Nat.le_refl _)] at h2
      rw [r.lenS] at h2
      simp at h1 h2
      subst h1 h2
      exact RO.of upd_same (hu.keep k)
  · rw [upd_ne fun e => (r.bad a h).1 (by rw [e]; exact hp)]
    exact (r.bad a h).1
  · rcases List.mem_append.mp z with z | z
    · exact (r.bad a h).2 z
    · exact (r.bad a h).1 (by rw [List.mem_singleton.mp z]; exact hp)
/-- an object of the store is changed -/
theorem Keep.write {a : Addr} {u : HO} (ha : a ∈ ρ) (hf : (∀ o v, H a ≠ some (.frz o v)) ∧ ∀ vs, H a ≠ some (.tup vs)) : Keep ρ H ρ (upd H a u) :=
  ⟨⟨[], by simp⟩, fun b o h hn => by rw [upd_ne (show b ≠ a from fun e => hn (by rw [e]; exact ha))]; exact h, fun b o v h => by rw [upd_ne (show b ≠ a from fun e => hf.1 o v (by rw [← e]; exact h))]; exact h, fun b vs h => by rw [upd_ne (show b ≠ a from fun e => hf.2 vs (by rw [← e]; exact h))]; exact h, fun b h1 h2 => absurd h1 h2⟩
theorem Rel.write (r : Rel K β ρ σd S σ H) {i : Nat} {a : Addr} {u : HO} {o : Ob} (hi : ρ[i]? = some a) (hf : (∀ o v, H a ≠ some (.frz o v)) ∧ ∀ vs, H a ≠ some (.tup vs)) (hu : RU K β ρ H u o) : Rel K β ρ σd (S.set i o) σ (upd H a u) := by
  have k : Keep ρ H ρ (upd H a u) := Keep.write (List.mem_of_getElem? hi) hf
  have hil : i < ρ.length := (List.getElem?_eq_some_iff.mp hi).1
  refine ⟨r.len, fun j d h => ?_, r.nd, by simp [r.lenS], fun j b o' h1 h2 => ?_, fun b h => ⟨?_, (r.bad b h).2⟩⟩
  · obtain ⟨v, e, q⟩ := r.val j d h
    exact ⟨v, e, q.keep k⟩
  · by_cases hj : j = i
    · subst hj
      rw [hi] at h1
      cases h1
      rw [List.getElem?_set_self (by rw [← r.lenS]; exact hil)] at h2
      cases h2
      exact RO.of upd_same (hu.keep k)
    · rw [List.getElem?_set_ne (Ne.symm hj)] at h2
      have q := r.ob j b o' h1 h2
      have hne : b ≠ a := fun e => by
        subst e
        obtain ⟨l1, e1⟩ := List.getElem?_eq_some_iff.mp hi
        obtain ⟨l2, e2⟩ := List.getElem?_eq_some_iff.mp h1
        exact hj ((List.getElem_inj r.nd).mp (e2.trans e1.symm))
      cases o' with
      | lck o => obtain ⟨od, w, e1, e2⟩ := q; exact ⟨od, w, by rw [upd_ne hne]; exact e1, e2.keep k⟩
      | lst _ => obtain ⟨w, e1, e2⟩ := q; exact ⟨w, by rw [upd_ne hne]; exact e1, e2.keep k⟩
      | dct _ _ => obtain ⟨w, e1, e2⟩ := q; exact ⟨w, by rw [upd_ne hne]; exact e1, e2.keep k⟩
  · rw [upd_ne (show b ≠ a from fun e => (r.bad b h).2 (by rw [e]; exact List.mem_of_getElem? hi))]
    exact (r.bad b h).1
theorem Rel.at (r : Rel K β ρ σd S σ H) {i : Nat} {a : Addr} (h : ρ[i]? = some a) : ∃ o, S[i]? = some o ∧ RO K β ρ H a o := by
  have hi := (List.getElem?_eq_some_iff.mp h).1
  have hS : i < S.length := by rw [← r.lenS]; exact hi
  exact ⟨S[i], List.getElem?_eq_getElem hS, r.ob i a _ h (List.getElem?_eq_getElem hS)⟩
/-- what an object of the store holds, locked or not -/
theorem Rel.rd (r : Rel K β ρ σd S σ H) {i : Nat} {a : Addr} {o : Ob} (h : ρ[i]? = some a) (ho : S[i]?.map Ob.inner = some o) : ∃ u, Rd H a u ∧ RU K β ρ H u o := by
  obtain ⟨o', e, q⟩ := r.at h
  rw [e] at ho
  cases o' with
  | lck o' =>
    have ho' : o'.inner = o := Option.some.inj ho
    obtain ⟨od, u, e1, e2⟩ := q
    exact ⟨u, .inr ⟨od, e1⟩, ho' ▸ e2⟩
  | lst xs => cases ho; obtain ⟨u, e1, e2⟩ := q; exact ⟨u, .inl e1, e2⟩
  | dct t kvs => cases ho; obtain ⟨u, e1, e2⟩ := q; exact ⟨u, .inl e1, e2⟩
end
end DD

namespace DD
open PySem PySem.Spec PyProof.Rows L2

abbrev WS := Str → L2.St → Hp → Prop
/-- what must hold behind an outcome -/
def Pst (K : PySem.W.Frag) (β : Addr → Prop) (ρ : List Addr) (σd : DEnv) (σ : L2.St) (H : Hp) (W : WS) {α : Type} (r : R α) (Φ : α → List Addr → Store → Hp → Prop) : Prop :=
  match r with
  | .ok a S' => ∀ ρ' H', Keep ρ H ρ' H' → Rel K β ρ' σd S' σ H' → Φ a ρ' S' H'
  | .exc c S' => ∀ ρ' H', Keep ρ H ρ' H' → Rel K β ρ' σd S' σ H' → W c σ H'
  | .stuck => False
section
variable {K : PySem.W.Frag} {β : Addr → Prop} {ρ ρ' : List Addr} {σd : DEnv} {σ : L2.St} {H H' : Hp} {W : WS} {S : Store} {α γ : Type}
theorem Pst.shift {r : R α} {Φ : α → List Addr → Store → Hp → Prop} (k : Keep ρ H ρ' H') (h : Pst K β ρ σd σ H W r Φ) : Pst K β ρ' σd σ H' W r Φ := by
  cases r with
  | ok a S' => exact fun ρ2 H2 k2 r2 => h ρ2 H2 (k.trans k2) r2
  | exc c S' => exact fun ρ2 H2 k2 r2 => h ρ2 H2 (k.trans k2) r2
  | stuck => exact h
theorem Pst.imp {r : R α} {Φ Ψ : α → List Addr → Store → Hp → Prop} (h : Pst K β ρ σd σ H W r Φ) (f : ∀ a ρ' S' H', Keep ρ H ρ' H' → Rel K β ρ' σd S' σ H' → Φ a ρ' S' H' → Ψ a ρ' S' H') : Pst K β ρ σd σ H W r Ψ := by
  cases r with
  | ok a S' => exact fun ρ2 H2 k2 r2 => f _ _ _ _ k2 r2 (h ρ2 H2 k2 r2)
  | exc c S' => exact h
  | stuck => exact h
theorem Pst.bind {r : R α} {f : α → Store → R γ} {Φ : γ → List Addr → Store → Hp → Prop} (h : Pst K β ρ σd σ H W (r.bind f) Φ) :
    Pst K β ρ σd σ H W r fun a ρ1 S1 H1 => Pst K β ρ1 σd σ H1 W (f a S1) Φ := by
  cases r with
  | ok a S' => exact fun ρ2 H2 k2 r2 => Pst.shift k2 h
  | exc c S' => exact h
  | stuck => exact h
theorem Pst.okIf {c : Bool} {r : R α} {Φ : α → List Addr → Store → Hp → Prop} (h : Pst K β ρ σd σ H W (okIf c r) Φ) : c = true ∧ Pst K β ρ σd σ H W r Φ := by
  unfold DD.okIf at h
  cases c with
  | true => exact ⟨rfl, h⟩
  | false => exact h.elim
theorem Pst.here {a : α} {S' : Store} {Φ : α → List Addr → Store → Hp → Prop} (h : Pst K β ρ σd σ H W (.ok a S') Φ) (r : Rel K β ρ σd S' σ H) : Φ a ρ S' H := h ρ H (Keep.refl ρ H) r

/-- what is wanted of a value: at the value that stands for it -/
abbrev ToV (K : PySem.W.Frag) (β : Addr → Prop) (Q : VK) : D → List Addr → Store → Hp → Prop := fun d ρ' _ H' => ∀ v, RV K β ρ' H' d v → Q v H'
abbrev ToVs (K : PySem.W.Frag) (β : Addr → Prop) (Q : List V → Hp → Prop) : List D → List Addr → Store → Hp → Prop := fun ds ρ' _ H' => ∀ vs, RVs K β ρ' H' ds vs → Q vs H'
/-- a new list -/
theorem mk_lst {m : Bool} {ds : List D} {vs : List V} {Q : VK} (r : Rel K β ρ σd S σ H) (rv : RVs K β ρ H ds vs) (z : vs.length ≤ sizeLine) (h : Pst K β ρ σd σ H W (mk m (.lst ds) S) (ToV K β Q)) {p : Addr} (hp : H p = none) : Q (.ref p) (upd H p (.lst vs)) := by
  cases m with
  | true =>
    have k : Keep ρ H (ρ ++ [p]) (upd H p (.lst vs)) := Keep.alloc hp
    refine h (ρ ++ [p]) _ k (r.alloc hp (o := .lst ds) ⟨vs, rfl, z, rv⟩) _ (.ref ?_)
    rw [← r.lenS, List.getElem?_append_right (Nat.le_refl _)]
    simp
  | false =>
    have k : Keep ρ H ρ (upd H p (.lst vs)) := Keep.upd_new ρ hp
    refine h ρ _ k (r.new hp) _ (.lst ⟨z, .inl ⟨.inl upd_same, r.fresh hp⟩⟩ (rv.keep k))
theorem mk_dT {m : Bool} {kvs : List (D × D)} {hk : List (List Key × V)} {Q : VK} (r : Rel K β ρ σd S σ H) (rv : RKT K β ρ H kvs hk) (h : Pst K β ρ σd σ H W (mk m (.dct true kvs) S) (ToV K β Q)) {p : Addr} (hp : H p = none) : Q (.ref p) (upd H p (.dT hk)) := by
  cases m with
  | true =>
    have k : Keep ρ H (ρ ++ [p]) (upd H p (.dT hk)) := Keep.alloc hp
    refine h (ρ ++ [p]) _ k (r.alloc hp (o := .dct true kvs) ⟨hk, rfl, rv⟩) _ (.ref ?_)
    rw [← r.lenS, List.getElem?_append_right (Nat.le_refl _)]
    simp
  | false =>
    have k : Keep ρ H ρ (upd H p (.dT hk)) := Keep.upd_new ρ hp
    exact h ρ _ k (r.new hp) _ (.dT (.inl upd_same) (r.fresh hp) (rv.keep k))
theorem mk_dK {m : Bool} {kvs : List (D × D)} {hk : List (Key × V)} {Q : VK} (r : Rel K β ρ σd S σ H) (rv : RKK K β ρ H kvs hk) (h : Pst K β ρ σd σ H W (mk m (.dct false kvs) S) (ToV K β Q)) {p : Addr} (hp : H p = none) : Q (.ref p) (upd H p (.dK hk)) := by
  cases m with
  | true =>
    have k : Keep ρ H (ρ ++ [p]) (upd H p (.dK hk)) := Keep.alloc hp
    refine h (ρ ++ [p]) _ k (r.alloc hp (o := .dct false kvs) ⟨hk, rfl, rv⟩) _ (.ref ?_)
    rw [← r.lenS, List.getElem?_append_right (Nat.le_refl _)]
    simp
  | false =>
    have k : Keep ρ H ρ (upd H p (.dK hk)) := Keep.upd_new ρ hp
    exact h ρ _ k (r.new hp) _ (.dK (.inl upd_same) (r.fresh hp) (rv.keep k))
/-- a new tuple -/
theorem mk_tup {ds : List D} {vs : List V} {Q : VK} (r : Rel K β ρ σd S σ H) (rv : RVs K β ρ H ds vs) (z : vs.length ≤ sizeLine) (h : Pst K β ρ σd σ H W (.ok (.tup ds) S) (ToV K β Q)) {p : Addr} (hp : H p = none) : Q (.ref p) (upd H p (.tup vs)) := by
  have k : Keep ρ H ρ (upd H p (.tup vs)) := Keep.upd_new ρ hp
  exact h ρ _ k (r.new hp) _ (.tup upd_same z (rv.keep k))

/-! ### reading -/
theorem RV.list (r : Rel K β ρ σd S σ H) {d : D} {v : V} {xs : List D} (h : RV K β ρ H d v) (e : d.list? S = some xs) : ∃ a vs, v = .ref a ∧ SqL K H a vs ∧ vs.length ≤ sizeLine ∧ RVs K β ρ H xs vs := by
  cases h with
  | lst hl rv =>
    cases e
    exact ⟨_, _, rfl, hl.seq, hl.1, rv⟩
  | @ref i a hi =>
    unfold D.list? at e
    cases q : S[i]?.map Ob.inner with
    | none => simp only [q] at e; cases e
    | some o =>
      simp only [q] at e
      obtain ⟨u, hr, hu⟩ := r.rd hi q
      cases o with
      | lst ys =>
        cases e
        obtain ⟨vs, eu, z, rv⟩ := hu
        subst eu
        exact ⟨a, vs, rfl, .inl hr, z, rv⟩
      | dct t kvs => cases e
      | lck o => cases e
  | _ => cases e
theorem RV.seq (r : Rel K β ρ σd S σ H) {d : D} {v : V} {xs : List D} (h : RV K β ρ H d v) (e : d.seq? S = some xs) : ∃ a vs, v = .ref a ∧ (SqL K H a vs ∨ SqT K H a vs) ∧ vs.length ≤ sizeLine ∧ RVs K β ρ H xs vs := by
  cases h with
  | tup hr z rv =>
    cases e
    exact ⟨_, _, rfl, .inr (SqT.of hr), z, rv⟩
  | lst hl rv =>
    cases e
    exact ⟨_, _, rfl, .inl hl.seq, hl.1, rv⟩
  | ref hi =>
    obtain ⟨a, vs, e1, e2, e3, e4⟩ := RV.list r (.ref hi) (show (D.ref _).list? S = some xs from e)
    exact ⟨a, vs, e1, .inl e2, e3, e4⟩
  | _ => cases e
/-- what a dict is -/
def RKd (K : PySem.W.Frag) (β : Addr → Prop) (ρ : List Addr) (H : Hp) (a : Addr) (t : Bool) (kvs : List (D × D)) : Prop :=
  match t with
  | true => ∃ hk, Rd H a (.dT hk) ∧ RKT K β ρ H kvs hk
  | false => ∃ hk, Rd H a (.dK hk) ∧ RKK K β ρ H kvs hk
theorem RV.dict (r : Rel K β ρ σd S σ H) {d : D} {v : V} {t : Bool} {kvs : List (D × D)} (h : RV K β ρ H d v) (e : d.dict? S = some (t, kvs)) : ∃ a, v = .ref a ∧ RKd K β ρ H a t kvs := by
  cases h with
  | dT hr hn rv => cases e; exact ⟨_, rfl, _, hr, rv⟩
  | dK hr hn rv => cases e; exact ⟨_, rfl, _, hr, rv⟩
  | @ref i a hi =>
    unfold D.dict? at e
    cases q : S[i]?.map Ob.inner with
    | none => simp only [q] at e; cases e
    | some o =>
      simp only [q] at e
      obtain ⟨u, hr, hu⟩ := r.rd hi q
      cases o with
      | lst ys => cases e
      | dct t kvs =>
        cases e
        cases t with
        | true => obtain ⟨hk, eu, rv⟩ := hu; subst eu; exact ⟨a, rfl, hk, hr, rv⟩
        | false => obtain ⟨hk, eu, rv⟩ := hu; subst eu; exact ⟨a, rfl, hk, hr, rv⟩
      | lck o => cases e
  | _ => cases e
/-- an object of the store that is open -/
theorem RV.open (r : Rel K β ρ σd S σ H) {i : Nat} {v : V} {o : Ob} (h : RV K β ρ H (.ref i) v) (e : S[i]? = some o) (ho : ∀ o', o ≠ .lck o') : ∃ a u, v = .ref a ∧ ρ[i]? = some a ∧ H a = some u ∧ RU K β ρ H u o ∧ ((∀ od w, H a ≠ some (.frz od w)) ∧ ∀ vs, H a ≠ some (.tup vs)) := by
  cases h with
  | @ref _ a hi =>
    have q := r.ob i a o hi e
    cases o with
    | lck o => exact absurd rfl (ho o)
    | lst xs =>
      obtain ⟨u, e1, e2⟩ := q
      obtain ⟨vs, eu, _⟩ := id e2
      refine ⟨a, u, rfl, hi, e1, e2, fun od w z => ?_, fun us z => ?_⟩ <;> (rw [e1, eu] at z; cases z)
    | dct t kvs =>
      obtain ⟨u, e1, e2⟩ := q
      cases t with
      | true => obtain ⟨hk, eu, _⟩ := id e2; refine ⟨a, u, rfl, hi, e1, e2, fun od w z => ?_, fun us z => ?_⟩ <;> (rw [e1, eu] at z; cases z)
      | false => obtain ⟨hk, eu, _⟩ := id e2; refine ⟨a, u, rfl, hi, e1, e2, fun od w z => ?_, fun us z => ?_⟩ <;> (rw [e1, eu] at z; cases z)
end

/-! ### values of plain kinds -/
section
variable {K : PySem.W.Frag} {β : Addr → Prop} {ρ : List Addr} {H : Hp} {v : V}
theorem RV.int_inv {i : Int} (h : RV K β ρ H (.int i) v) : v = .int i := by cases h; rfl
theorem RV.bl_inv {b : Bool} (h : RV K β ρ H (.bl b) v) : v = .bl b := by cases h; rfl
theorem RV.str_inv {x : Str} (h : RV K β ρ H (.str x) v) : v = .str x := by cases h; rfl
theorem RV.non_inv (h : RV K β ρ H .non v) : v = .non := by cases h; rfl
theorem RV.tup_inv {ds : List D} (h : RV K β ρ H (.tup ds) v) : ∃ a vs, v = .ref a ∧ H a = some (.tup vs) ∧ vs.length ≤ sizeLine ∧ RVs K β ρ H ds vs := by
  cases h with
  | tup h1 h3 h4 => exact ⟨_, _, rfl, h1, h3, h4⟩
theorem RVs.nil_inv {vs : List V} (h : RVs K β ρ H [] vs) : vs = [] := by cases h; rfl
theorem RVs.cons_inv {d : D} {ds : List D} {vs : List V} (h : RVs K β ρ H (d :: ds) vs) : ∃ v us, vs = v :: us ∧ RV K β ρ H d v ∧ RVs K β ρ H ds us := by
  cases h with
  | cons h1 h2 => exact ⟨_, _, rfl, h1, h2⟩
theorem RVs.one_inv {d : D} {vs : List V} (h : RVs K β ρ H [d] vs) : ∃ v, vs = [v] ∧ RV K β ρ H d v := by
  obtain ⟨v, us, e, h1, h2⟩ := h.cons_inv
  rw [h2.nil_inv] at e
  exact ⟨v, e, h1⟩
theorem RVs.two_inv {d e : D} {vs : List V} (h : RVs K β ρ H [d, e] vs) : ∃ v u, vs = [v, u] ∧ RV K β ρ H d v ∧ RV K β ρ H e u := by
  obtain ⟨v, us, e1, h1, h2⟩ := h.cons_inv
  obtain ⟨u, e2, h3⟩ := h2.one_inv
  rw [e2] at e1
  exact ⟨v, u, e1, h1, h3⟩
theorem RVs.int? : ∀ {ds : List D} {ns : List Int} {vs : List V}, RVs K β ρ H ds vs → ds.mapM D.int? = some ns → vs = ns.map V.int ∧ ds = ns.map D.int
  | [], ns, vs, h, e => by
    simp at e
    subst e
    exact ⟨h.nil_inv, rfl⟩
  | d :: ds, ns, vs, h, e => by
    obtain ⟨v, us, rfl, h1, h2⟩ := h.cons_inv
    simp only [List.mapM_cons, Option.pure_def, Option.bind_eq_bind, Option.bind_eq_some_iff] at e
    obtain ⟨i, e1, ms, e2, e3⟩ := e
    cases e3
    cases d with
    | int j =>
      cases e1
      obtain ⟨r1, r2⟩ := RVs.int? h2 e2
      rw [h1.int_inv, r1, r2]
      exact ⟨rfl, rfl⟩
    | _ => cases e1
end

/-! ### wishes of expressions -/
/-- the reading of an expression that the evaluator runs as m -/
def T (K : PySem.W.Frag) (W : WS) (m : DEnv → Store → R D) : L2.TE := fun σ H Q => ∃ β ρ σd S, Rel K β ρ σd S σ H ∧ Pst K β ρ σd σ H W (m σd S) (ToV K β Q)
def TL (K : PySem.W.Frag) (W : WS) (m : DEnv → Store → R (List D)) : L2.TA := fun σ H Q => ∃ β ρ σd S, Rel K β ρ σd S σ H ∧ Pst K β ρ σd σ H W (m σd S) (ToVs K β Q)
def TB (K : PySem.W.Frag) (W : WS) (m : DEnv → Store → R Bool) : L2.TT := fun σ H Q => ∃ β ρ σd S, Rel K β ρ σd S σ H ∧ Pst K β ρ σd σ H W (m σd S) fun b _ _ H' => Q b H'
theorem pe_weak {X : Cx} {e : Expr} {t t' : L2.TE} (h : PE X e t) (w : ∀ σ H Q, t' σ H Q → t σ H Q) : PE X e t' := ⟨fun pins s σ H Q I q => h.run pins s σ H Q I (w σ H Q q)⟩
theorem pt_weak {X : Cx} {e : Expr} {t t' : L2.TT} (h : PT X e t) (w : ∀ σ H Q, t' σ H Q → t σ H Q) : PT X e t' := ⟨fun pins s σ H Q I q => h.run pins s σ H Q I (w σ H Q q)⟩
theorem pw_weak {X : Cx} {e : Expr} {t t' : L2.TT} (h : PW X e t) (w : ∀ σ H Q, t' σ H Q → t σ H Q) : PW X e t' := ⟨fun wh pins s σ H Q I q => h.run wh pins s σ H Q I (w σ H Q q)⟩
theorem pa_weak {X : Cx} {e : List Expr} {t t' : L2.TA} (h : PA X e t) (w : ∀ σ H Q, t' σ H Q → t σ H Q) : PA X e t' := ⟨fun pos pins s σ H Q I q => h.run pos pins s σ H Q I (w σ H Q q)⟩
theorem ps_weak {X : Cx} {e : Stmt} {t t' : L2.TS} (h : PS X e t) (w : ∀ D σ H, t' D σ H → t D σ H) : PS X e t' := ⟨fun pins s σ H D I q => h.run pins s σ H D I (w D σ H q)⟩
theorem pss_weak {X : Cx} {e : List Stmt} {t t' : L2.TS} (h : PSs X e t) (w : ∀ D σ H, t' D σ H → t D σ H) : PSs X e t' := ⟨fun pins s σ H D I q => h.run pins s σ H D I (w D σ H q)⟩

/-- an operation by values does what the evaluator's does -/
def Op2 (X : Cx) (f : Value → Value → Sem Value) (g : Store → D → D → R D) : Prop := ∃ r : R2, OpR X f r ∧
  ∀ (W : WS) (β : Addr → Prop) (ρ : List Addr) (σd : DEnv) (S : Store) (σ : L2.St) (H : Hp) (x y : D) (vx vy : V) (Q : VK), Rel X.K β ρ σd S σ H → RV X.K β ρ H x vx → RV X.K β ρ H y vy →
    Pst X.K β ρ σd σ H W (g S x y) (ToV X.K β Q) → r vx vy H Q
end DD

namespace DD
open PySem PySem.Spec PyProof.Rows L2

/-! ### data read -/
section
variable {K : PySem.W.Frag} {β : Addr → Prop} {ρ : List Addr} {σd : DEnv} {σ : L2.St} {H : Hp} {S : Store}
mutual
theorem dp_sub {f : Nat → Option D} (hf : ∀ i d' a, f i = some d' → ρ[i]? = some a → d'.toPy.canLay0 = true → Dp K H (.ref a) d'.toPy) :
    ∀ (d : D) (v : V) (d' : D), RV K β ρ H d v → D.sub f d = some d' → d'.toPy.canLay0 = true → Dp K H v d'.toPy
  | .non, v, d', h, e, _ => by rw [h.non_inv]; cases e; exact .non
  | .bl b, v, d', h, e, _ => by rw [h.bl_inv]; cases e; exact .bl b
  | .int i, v, d', h, e, _ => by rw [h.int_inv]; cases e; exact .int i
  | .str x, v, d', h, e, _ => by rw [h.str_inv]; cases e; exact .str x
  | .tup xs, v, d', h, e, c => by
    obtain ⟨a, vs, rfl, h1, h3, h4⟩ := h.tup_inv
    rw [D.sub] at e
    obtain ⟨ys, e1, e2⟩ := Option.map_eq_some_iff.mp e
    subst e2
    rw [D.toPy]
    refine .tup (SqT.of h1) (dp_subs hf xs vs ys h4 e1 ?_)
    rw [D.toPy, PyData.canLay0] at c
    exact c
  | .lst xs, v, d', h, e, c => by
    cases h with
    | lst hl h4 =>
      rw [D.sub] at e
      obtain ⟨ys, e1, e2⟩ := Option.map_eq_some_iff.mp e
      subst e2
      rw [D.toPy]
      refine .lst hl.seq (dp_subs hf xs _ ys h4 e1 ?_)
      rw [D.toPy, PyData.canLay0] at c
      exact c
  | .dct t kvs, v, d', h, e, c => by
    rw [D.sub] at e
    obtain ⟨ys, e1, e2⟩ := Option.map_eq_some_iff.mp e
    subst e2
    rw [D.toPy, PyData.canLay0] at c
    cases c
  | .ref i, v, d', h, e, c => by
    cases h with
    | ref hi =>
      rw [D.sub] at e
      exact hf i d' _ e hi c
theorem dp_subs {f : Nat → Option D} (hf : ∀ i d' a, f i = some d' → ρ[i]? = some a → d'.toPy.canLay0 = true → Dp K H (.ref a) d'.toPy) :
    ∀ (ds : List D) (vs : List V) (ds' : List D), RVs K β ρ H ds vs → D.subs f ds = some ds' → PyData.canLayAll0 (D.toPys ds') = true → DpAll K H vs (D.toPys ds')
  | [], vs, ds', h, e, _ => by rw [h.nil_inv]; cases e; exact .nil
  | d :: ds, vs, ds', h, e, c => by
    obtain ⟨v, us, rfl, h1, h2⟩ := h.cons_inv
    rw [D.subs] at e
    obtain ⟨y, e1, e2⟩ := Option.bind_eq_some_iff.mp e
    obtain ⟨ys, e3, e4⟩ := Option.map_eq_some_iff.mp e2
    subst e4
    rw [D.toPys, PyData.canLayAll0, Bool.and_eq_true] at c
    rw [D.toPys]
    exact .cons (dp_sub hf d v y h1 e1 c.1) (dp_subs hf ds us ys h2 e3 c.2)
end
theorem dp_rdN (r : Rel K β ρ σd S σ H) : ∀ (n i : Nat) (d' : D) (a : Addr), rdN n S i = some d' → ρ[i]? = some a → d'.toPy.canLay0 = true → Dp K H (.ref a) d'.toPy
  | 0, i, d', a, e, _, _ => by cases e
  | n + 1, i, d', a, e, hi, c => by
    rw [rdN] at e
    cases q : S[i]?.map Ob.inner with
    | none => rw [q] at e; cases e
    | some o =>
      rw [q] at e
      obtain ⟨u, hr, hu⟩ := r.rd hi q
      cases o with
      | lst xs =>
        obtain ⟨ys, e1, e2⟩ := Option.map_eq_some_iff.mp e
        subst e2
        obtain ⟨vs, eu, z, rv⟩ := hu
        subst eu
        rw [D.toPy, PyData.canLay0] at c
        rw [D.toPy]
        exact .lst (.inl hr) (dp_subs (dp_rdN r n) xs vs ys rv e1 c)
      | dct t kvs =>
        obtain ⟨ys, e1, e2⟩ := Option.map_eq_some_iff.mp e
        subst e2
        rw [D.toPy, PyData.canLay0] at c
        cases c
      | lck o => cases e
theorem RV.dp (r : Rel K β ρ σd S σ H) {d d' : D} {v : V} (h : RV K β ρ H d v) (e : D.rd S d = some d') (c : d'.cmpOk = true) : Dp K H v d'.toPy ∧ d'.toPy.canLay0 = true ∧ d'.toPy.depth ≤ 60 := by
  unfold D.cmpOk at c
  rw [Bool.and_eq_true] at c
  exact ⟨dp_sub (dp_rdN r 8) d v d' h e c.1, c.1, of_decide_eq_true c.2⟩
theorem shaped_of {d : D} (c : d.cmpOk = true) : SeqAt.shaped d.toPy = true := by
  unfold D.cmpOk at c
  rw [Bool.and_eq_true] at c
  unfold SeqAt.shaped
  rw [c.1, Bool.true_and]
  have := of_decide_eq_true c.2
  exact decide_eq_true (by omega)
end

/-! ### operators -/
/-- an outcome that is a plain value -/
theorem Pst.val {K : PySem.W.Frag} {β : Addr → Prop} {ρ : List Addr} {σd : DEnv} {σ : L2.St} {H : Hp} {W : WS} {S : Store} {d : D} {Q : VK} (h : Pst K β ρ σd σ H W (.ok d S) (ToV K β Q)) (r : Rel K β ρ σd S σ H) {v : V} (rv : RV K β ρ H d v) : Q v H := Pst.here h r v rv
def Cmp2 (X : Cx) (f : Value → Value → Sem Value) (g : Store → D → D → Option Bool) : Prop := ∃ r : R2, OpR X f r ∧
  ∀ (β : Addr → Prop) (ρ : List Addr) (σd : DEnv) (S : Store) (σ : L2.St) (H : Hp) (x y : D) (vx vy : V) (b : Bool) (Q : VK), Rel X.K β ρ σd S σ H → RV X.K β ρ H x vx → RV X.K β ρ H y vy →
    g S x y = some b → Q (.bl b) H → r vx vy H Q
section
variable {X : Cx}
theorem cmp_eq (hu : X.A.units + 64 < cLine) : Cmp2 X (compareOp .Eq) D.eq? := by
  refine ⟨_, op_eqD hu, fun β ρ σd S σ H x y vx vy b Q r rx ry e q => ?_⟩
  unfold D.eq? at e
  cases h1 : D.rd S x with
  | none => rw [h1] at e; cases e
  | some a =>
    cases h2 : D.rd S y with
    | none => rw [h1, h2] at e; cases e
    | some c =>
      simp only [h1, h2] at e
      by_cases hc : (a.cmpOk && c.cmpOk) = true
      · rw [if_pos hc] at e
        rw [Bool.and_eq_true] at hc
        cases e
        exact ⟨_, _, (rx.dp r h1 hc.1).1, (ry.dp r h2 hc.2).1, shaped_of hc.1, shaped_of hc.2, q⟩
      · rw [if_neg hc] at e; cases e
theorem cmp_ne (hu : X.A.units + 64 < cLine) : Cmp2 X (compareOp .NotEq) fun S x y => (D.eq? S x y).map not := by
  refine ⟨_, op_neD hu, fun β ρ σd S σ H x y vx vy b Q r rx ry e q => ?_⟩
  obtain ⟨b', e', eb⟩ := Option.map_eq_some_iff.mp e
  subst eb
  unfold D.eq? at e'
  cases h1 : D.rd S x with
  | none => rw [h1] at e'; cases e'
  | some a =>
    cases h2 : D.rd S y with
    | none => rw [h1, h2] at e'; cases e'
    | some c =>
      simp only [h1, h2] at e'
      by_cases hc : (a.cmpOk && c.cmpOk) = true
      · rw [if_pos hc] at e'
        rw [Bool.and_eq_true] at hc
        cases e'
        exact ⟨_, _, (rx.dp r h1 hc.1).1, (ry.dp r h2 hc.2).1, shaped_of hc.1, shaped_of hc.2, q⟩
      · rw [if_neg hc] at e'; cases e'
/-- an order of data: what the library says of it -/
def rOrd (K : PySem.W.Frag) (k : PyData → PyData → Bool) : R2 := fun x y H Q => ∃ d e, Dp K H x d ∧ Dp K H y e ∧ PySem.W.alike d e = true ∧ d ≠ .none ∧ d.depth ≤ 60 ∧ Q (.bl (k d e)) H
theorem op_ltData (hu : X.A.units + 64 < cLine) : OpR X (compareOp .Lt) (rOrd X.K fun d e => PySem.W.dataLt d e) := by
  intro pins s σ H x y v u Q I rx ry h
  obtain ⟨d, e, hd, he, al, hn, hz, q⟩ := h
  obtain ⟨as, r1⟩ := Dp.reads I d x v hd rx
  obtain ⟨bs, r2⟩ := Dp.reads I e y u he ry
  exact PySem.W.lt_data r1 r2 al hn (by omega) ⟨.bl _, H, I, rfl, q⟩
theorem op_gtData (hu : X.A.units + 64 < cLine) : OpR X (compareOp .Gt) (rOrd X.K fun d e => PySem.W.dataLt e d) := by
  intro pins s σ H x y v u Q I rx ry h
  obtain ⟨d, e, hd, he, al, hn, hz, q⟩ := h
  obtain ⟨as, r1⟩ := Dp.reads I d x v hd rx
  obtain ⟨bs, r2⟩ := Dp.reads I e y u he ry
  exact PySem.W.gt_data r1 r2 al hn (by omega) ⟨.bl _, H, I, rfl, q⟩
theorem op_leData (hu : X.A.units + 64 < cLine) : OpR X (compareOp .LtE) (rOrd X.K fun d e => !PySem.W.dataLt e d) := by
  intro pins s σ H x y v u Q I rx ry h
  obtain ⟨d, e, hd, he, al, hn, hz, q⟩ := h
  obtain ⟨as, r1⟩ := Dp.reads I d x v hd rx
  obtain ⟨bs, r2⟩ := Dp.reads I e y u he ry
  exact PySem.W.le_data r1 r2 al hn (by omega) ⟨.bl _, H, I, rfl, q⟩
theorem op_geData (hu : X.A.units + 64 < cLine) : OpR X (compareOp .GtE) (rOrd X.K fun d e => !PySem.W.dataLt d e) := by
  intro pins s σ H x y v u Q I rx ry h
  obtain ⟨d, e, hd, he, al, hn, hz, q⟩ := h
  obtain ⟨as, r1⟩ := Dp.reads I d x v hd rx
  obtain ⟨bs, r2⟩ := Dp.reads I e y u he ry
  exact PySem.W.ge_data r1 r2 al hn (by omega) ⟨.bl _, H, I, rfl, q⟩
theorem lt?_inv {S : Store} {x y : D} {b : Bool} (e : D.lt? S x y = some b) : ∃ a c, D.rd S x = some a ∧ D.rd S y = some c ∧ PySem.W.alike a.toPy c.toPy = true ∧ a.cmpOk = true ∧ c.cmpOk = true ∧ a.toPy ≠ .none ∧ c.toPy ≠ .none ∧ b = PySem.W.dataLt a.toPy c.toPy := by
  unfold D.lt? at e
  cases h1 : D.rd S x with
  | none => rw [h1] at e; cases e
  | some a =>
    cases h2 : D.rd S y with
    | none => rw [h1, h2] at e; cases e
    | some c =>
      simp only [h1, h2] at e
      by_cases hc : (W.alike a.toPy c.toPy && a.cmpOk && c.cmpOk && !a.isNon) = true
      · rw [if_pos hc] at e
        simp only [Bool.and_eq_true] at hc
        have ha : a.toPy ≠ .none := by
          intro z
          cases a with
          | non => exact absurd hc.2 (by decide)
          | _ => rw [D.toPy] at z; cases z
        exact ⟨a, c, rfl, rfl, hc.1.1.1, hc.1.1.2, hc.1.2, ha, PySem.W.ne_none_both hc.1.1.1 ha, (Option.some.inj e).symm⟩
      · rw [if_neg hc] at e
        cases e
theorem cmp_lt (hu : X.A.units + 64 < cLine) : Cmp2 X (compareOp .Lt) D.lt? := by
  refine ⟨_, op_ltData hu, fun β ρ σd S σ H x y vx vy b Q r rx ry e q => ?_⟩
  obtain ⟨a, c, h1, h2, al, c1, c2, n1, n2, eb⟩ := lt?_inv e
  exact ⟨_, _, (rx.dp r h1 c1).1, (ry.dp r h2 c2).1, al, n1, (rx.dp r h1 c1).2.2, by subst eb; exact q⟩
theorem cmp_ge (hu : X.A.units + 64 < cLine) : Cmp2 X (compareOp .GtE) fun S x y => (D.lt? S x y).map not := by
  refine ⟨_, op_geData hu, fun β ρ σd S σ H x y vx vy b Q r rx ry e q => ?_⟩
  obtain ⟨b', e, eb'⟩ := Option.map_eq_some_iff.mp e
  obtain ⟨a, c, h1, h2, al, c1, c2, n1, n2, eb⟩ := lt?_inv e
  subst eb' eb
  exact ⟨_, _, (rx.dp r h1 c1).1, (ry.dp r h2 c2).1, al, n1, (rx.dp r h1 c1).2.2, q⟩
theorem cmp_gt (hu : X.A.units + 64 < cLine) : Cmp2 X (compareOp .Gt) fun S x y => D.lt? S y x := by
  refine ⟨_, op_gtData hu, fun β ρ σd S σ H x y vx vy b Q r rx ry e q => ?_⟩
  obtain ⟨a, c, h1, h2, al, c1, c2, n1, n2, eb⟩ := lt?_inv e
  rw [PySem.W.alike_comm] at al
  exact ⟨_, _, (rx.dp r h2 c2).1, (ry.dp r h1 c1).1, al, n2, (rx.dp r h2 c2).2.2, by subst eb; exact q⟩
theorem cmp_le (hu : X.A.units + 64 < cLine) : Cmp2 X (compareOp .LtE) fun S x y => (D.lt? S y x).map not := by
  refine ⟨_, op_leData hu, fun β ρ σd S σ H x y vx vy b Q r rx ry e q => ?_⟩
  obtain ⟨b', e, eb'⟩ := Option.map_eq_some_iff.mp e
  obtain ⟨a, c, h1, h2, al, c1, c2, n1, n2, eb⟩ := lt?_inv e
  subst eb' eb
  rw [PySem.W.alike_comm] at al
  exact ⟨_, _, (rx.dp r h2 c2).1, (ry.dp r h1 c1).1, al, n2, (rx.dp r h2 c2).2.2, q⟩
/-! is, is not -/
theorem cmp_is : Cmp2 X (compareOp .Is) (cmpop .is) := by
  refine ⟨_, op_isN.or op_is_bl, fun β ρ σd S σ H x y vx vy b Q r rx ry e q => ?_⟩
  have hn : ∀ {b' : Bool}, y = .non → some b' = some b → vy = .non → decide (vx = .non) = b' → ((vy = .non ∧ Q (.bl (decide (vx = .non))) H) ∨ ∃ a c, vx = .bl a ∧ vy = .bl c ∧ Q (.bl (decide (a = c))) H) := fun {b'} _ e1 e2 e3 => .inl ⟨e2, by rw [e3, Option.some.inj e1]; exact q⟩
  cases y with
  | non =>
    have ey := ry.non_inv
    cases x with
    | non => exact hn rfl e ey (by rw [rx.non_inv]; rfl)
    | bl c => exact hn rfl e ey (by rw [rx.bl_inv]; rfl)
    | int c => exact hn rfl e ey (by rw [rx.int_inv]; rfl)
    | str c => exact hn rfl e ey (by rw [rx.str_inv]; rfl)
    | tup c => obtain ⟨a, vs, e1, _⟩ := rx.tup_inv; exact hn rfl e ey (by rw [e1]; rfl)
    | lst c => cases rx; exact hn rfl e ey rfl
    | dct t c => cases rx <;> exact hn rfl e ey rfl
    | ref c => cases rx; exact hn rfl e ey rfl
  | bl c =>
    cases x with
    | bl a => cases e; exact .inr ⟨a, c, rx.bl_inv, ry.bl_inv, q⟩
    | _ => cases e
  | _ => cases x <;> cases e
theorem cmp_isn : Cmp2 X (compareOp .IsNot) (cmpop .isn) := by
  refine ⟨_, op_notN.or op_isnot_bl, fun β ρ σd S σ H x y vx vy b Q r rx ry e q => ?_⟩
  have hn : ∀ {b' : Bool}, y = .non → some b' = some b → vy = .non → (!decide (vx = .non)) = b' → ((vy = .non ∧ Q (.bl (!decide (vx = .non))) H) ∨ ∃ a c, vx = .bl a ∧ vy = .bl c ∧ Q (.bl (!decide (a = c))) H) := fun {b'} _ e1 e2 e3 => .inl ⟨e2, by rw [e3, Option.some.inj e1]; exact q⟩
  cases y with
  | non =>
    have ey := ry.non_inv
    cases x with
    | non => exact hn rfl e ey (by rw [rx.non_inv]; rfl)
    | bl c => exact hn rfl e ey (by rw [rx.bl_inv]; rfl)
    | int c => exact hn rfl e ey (by rw [rx.int_inv]; rfl)
    | str c => exact hn rfl e ey (by rw [rx.str_inv]; rfl)
    | tup c => obtain ⟨a, vs, e1, _⟩ := rx.tup_inv; exact hn rfl e ey (by rw [e1]; rfl)
    | lst c => cases rx; exact hn rfl e ey rfl
    | dct t c => cases rx <;> exact hn rfl e ey rfl
    | ref c => cases rx; exact hn rfl e ey rfl
  | bl c =>
    cases x with
    | bl a => cases e; exact .inr ⟨a, c, rx.bl_inv, ry.bl_inv, q⟩
    | _ => cases e
  | _ => cases x <;> cases e
end
end DD

namespace DD
open PySem PySem.Spec PyProof.Rows L2

/-! ### keys -/
theorem keyD_toPy : ∀ k : Key, (keyD k).toPy = match k with | .inl i => .int i | .inr x => .str x
  | .inl _ => rfl
  | .inr _ => rfl
theorem key_eqv (a b : Key) : D.eqv (keyD a) (keyD b) = decide (a = b) := by
  unfold D.eqv
  cases a with
  | inl i =>
    cases b with
    | inl j =>
      show (i == j) = _
      by_cases h : i = j
      · subst h; simp
      · rw [decide_eq_false fun e => h (Sum.inl.inj e)]; simpa using h
    | inr y => rfl
  | inr x =>
    cases b with
    | inl j => rfl
    | inr y =>
      show (x == y) = _
      by_cases h : x = y
      · subst h; simp
      · rw [decide_eq_false fun e => h (Sum.inr.inj e)]; simpa using h
theorem keys_eqv : ∀ a b : List Key, PyData.eqvAll (D.toPys (a.map keyD)) (D.toPys (b.map keyD)) = decide (a = b)
  | [], [] => rfl
  | [], _ :: _ => rfl
  | _ :: _, [] => rfl
  | x :: a, y :: b => by
    have h1 : PyData.eqv (keyD x).toPy (keyD y).toPy = decide (x = y) := key_eqv x y
    rw [List.map_cons, List.map_cons, D.toPys, D.toPys, PyData.eqvAll, h1, keys_eqv a b]
    by_cases h : x = y
    · subst h
      by_cases h' : a = b
      · subst h'; simp
      · rw [decide_eq_true rfl, decide_eq_false h', decide_eq_false fun e => h' (List.cons.inj e).2]; rfl
    · rw [decide_eq_false h, decide_eq_false fun e => h (List.cons.inj e).1]; rfl
theorem tkey_eqv (a b : List Key) : D.eqv (.tup (a.map keyD)) (.tup (b.map keyD)) = decide (a = b) := by
  unfold D.eqv
  rw [D.toPy, D.toPy, PyData.eqv]
  exact keys_eqv a b
theorem isK_inv {d : D} (h : d.isK = true) : ∃ k, d = keyD k := by
  cases d with
  | int i => exact ⟨.inl i, rfl⟩
  | str x => exact ⟨.inr x, rfl⟩
  | _ => cases h
theorem allK_inv : ∀ {ds : List D}, ds.all D.isK = true → ∃ ks : List Key, ds = ks.map keyD
  | [], _ => ⟨[], rfl⟩
  | d :: ds, h => by
    rw [List.all_cons, Bool.and_eq_true] at h
    obtain ⟨k, rfl⟩ := isK_inv h.1
    obtain ⟨ks, rfl⟩ := allK_inv h.2
    exact ⟨k :: ks, rfl⟩
theorem isT_inv {d : D} (h : d.isT = true) : ∃ ks : List Key, d = .tup (ks.map keyD) := by
  cases d with
  | tup xs =>
    obtain ⟨ks, rfl⟩ := allK_inv h
    exact ⟨ks, rfl⟩
  | _ => cases h
section
variable {K : PySem.W.Frag} {β : Addr → Prop} {ρ : List Addr} {σd : DEnv} {σ : L2.St} {H : Hp} {S : Store} {W : WS}
theorem RV.key {k : Key} {v : V} (h : RV K β ρ H (keyD k) v) : v = kV k := by
  cases k with
  | inl i => exact h.int_inv
  | inr x => exact h.str_inv
theorem RVs.keys : ∀ {ks : List Key} {vs : List V}, RVs K β ρ H (ks.map keyD) vs → vs = ks.map kV
  | [], vs, h => h.nil_inv
  | k :: ks, vs, h => by
    obtain ⟨v, us, rfl, h1, h2⟩ := RVs.cons_inv (show RVs K β ρ H (keyD k :: ks.map keyD) vs from h)
    rw [h1.key, RVs.keys h2]
    rfl
theorem RV.of_key (k : Key) : RV K β ρ H (keyD k) (kV k) := by
  cases k with
  | inl i => exact .int i
  | inr x => exact .str x
theorem RVs.of_keys : ∀ ks : List Key, RVs K β ρ H (ks.map keyD) (ks.map kV)
  | [] => .nil
  | k :: ks => .cons (.of_key k) (RVs.of_keys ks)
theorem RV.tkey {ks : List Key} {v : V} (h : RV K β ρ H (.tup (ks.map keyD)) v) : ∃ a, v = .ref a ∧ H a = some (.tup (ks.map kV)) ∧ ks.length ≤ sizeLine := by
  obtain ⟨a, vs, rfl, h1, z, h4⟩ := h.tup_inv
  have e := h4.length
  rw [List.length_map] at e
  rw [h4.keys] at h1
  exact ⟨a, rfl, h1, by omega⟩
/-- a looked up value and what stands for it -/
def RVo (K : PySem.W.Frag) (β : Addr → Prop) (ρ : List Addr) (H : Hp) : Option D → Option V → Prop
  | none, none => True
  | some d, some v => RV K β ρ H d v
  | _, _ => False
theorem dlook_cons (p : D × D) (kvs : List (D × D)) (k : D) : dlook (p :: kvs) k = if p.1.eqv k = true then some p.2 else dlook kvs k := by
  unfold dlook
  rw [List.find?_cons]
  cases p.1.eqv k <;> rfl
theorem RKT.look : ∀ {kvs : List (D × D)} {hk : List (List Key × V)}, RKT K β ρ H kvs hk → ∀ k : List Key, RVo K β ρ H (dlook kvs (.tup (k.map keyD))) (valV hk k)
  | _, _, .nil, _ => trivial
  | _, _, .cons (k := j) (d := d) (v := v) (kvs := kvs) (hk := hk) _ h r, k => by
    rw [dlook_cons, tkey_eqv]
    by_cases e : j = k
    · rw [decide_eq_true e, if_pos rfl, valV_pos (p := (j, v)) e]
      exact h
    · rw [decide_eq_false e, if_neg Bool.false_ne_true, valV_neg (p := (j, v)) e]
      exact RKT.look r k
theorem RKK.look : ∀ {kvs : List (D × D)} {hk : List (Key × V)}, RKK K β ρ H kvs hk → ∀ k : Key, RVo K β ρ H (dlook kvs (keyD k)) (valV hk k)
  | _, _, .nil, _ => trivial
  | _, _, .cons (k := j) (d := d) (v := v) (kvs := kvs) (hk := hk) h r, k => by
    rw [dlook_cons, key_eqv]
    by_cases e : j = k
    · rw [decide_eq_true e, if_pos rfl, valV_pos (p := (j, v)) e]
      exact h
    · rw [decide_eq_false e, if_neg Bool.false_ne_true, valV_neg (p := (j, v)) e]
      exact RKK.look r k
theorem RKT.anyK : ∀ {kvs : List (D × D)} {hk : List (List Key × V)}, RKT K β ρ H kvs hk → ∀ k : List Key, (kvs.any fun p => p.1.eqv (.tup (k.map keyD))) = (hk.any fun kv => decide (kv.1 = k))
  | _, _, .nil, _ => rfl
  | _, _, .cons _ h r, k => by rw [List.any_cons, List.any_cons, tkey_eqv, RKT.anyK r k]
theorem RKK.anyK : ∀ {kvs : List (D × D)} {hk : List (Key × V)}, RKK K β ρ H kvs hk → ∀ k : Key, (kvs.any fun p => p.1.eqv (keyD k)) = (hk.any fun kv => decide (kv.1 = k))
  | _, _, .nil, _ => rfl
  | _, _, .cons h r, k => by rw [List.any_cons, List.any_cons, key_eqv, RKK.anyK r k]
theorem RKT.mapK {d : D} {v : V} (hd : RV K β ρ H d v) (k : List Key) : ∀ {kvs : List (D × D)} {hk : List (List Key × V)}, RKT K β ρ H kvs hk →
    RKT K β ρ H (kvs.map fun p => if p.1.eqv (.tup (k.map keyD)) = true then (p.1, d) else p) (hk.map fun kv => if kv.1 = k then (kv.1, v) else kv)
  | _, _, .nil => .nil
  | _, _, .cons (k := j) z h r => by
    rw [List.map_cons, List.map_cons, tkey_eqv]
    by_cases e : j = k
    · rw [decide_eq_true e, if_pos rfl, if_pos e]
      exact .cons z hd (RKT.mapK hd k r)
    · rw [decide_eq_false e, if_neg Bool.false_ne_true, if_neg e]
      exact .cons z h (RKT.mapK hd k r)
theorem RKK.mapK {d : D} {v : V} (hd : RV K β ρ H d v) (k : Key) : ∀ {kvs : List (D × D)} {hk : List (Key × V)}, RKK K β ρ H kvs hk →
    RKK K β ρ H (kvs.map fun p => if p.1.eqv (keyD k) = true then (p.1, d) else p) (hk.map fun kv => if kv.1 = k then (kv.1, v) else kv)
  | _, _, .nil => .nil
  | _, _, .cons (k := j) h r => by
    rw [List.map_cons, List.map_cons, key_eqv]
    by_cases e : j = k
    · rw [decide_eq_true e, if_pos rfl, if_pos e]
      exact .cons hd (RKK.mapK hd k r)
    · rw [decide_eq_false e, if_neg Bool.false_ne_true, if_neg e]
      exact .cons h (RKK.mapK hd k r)
theorem RKT.snoc {d : D} {v : V} (hd : RV K β ρ H d v) (k : List Key) (zk : k.length ≤ sizeLine) : ∀ {kvs : List (D × D)} {hk : List (List Key × V)}, RKT K β ρ H kvs hk → RKT K β ρ H (kvs ++ [(.tup (k.map keyD), d)]) (hk ++ [(k, v)])
  | _, _, .nil => .cons zk hd .nil
  | _, _, .cons z h r => .cons z h (RKT.snoc hd k zk r)
theorem RKK.snoc {d : D} {v : V} (hd : RV K β ρ H d v) (k : Key) : ∀ {kvs : List (D × D)} {hk : List (Key × V)}, RKK K β ρ H kvs hk → RKK K β ρ H (kvs ++ [(keyD k, d)]) (hk ++ [(k, v)])
  | _, _, .nil => .cons hd .nil
  | _, _, .cons h r => .cons h (RKK.snoc hd k r)
theorem RKT.put {d : D} {v : V} {kvs : List (D × D)} {hk : List (List Key × V)} (r : RKT K β ρ H kvs hk) (hd : RV K β ρ H d v) (k : List Key) (zk : k.length ≤ sizeLine) : RKT K β ρ H (dput kvs (.tup (k.map keyD)) d) (putK hk k v) := by
  unfold dput putK
  rw [r.anyK k]
  split
  · exact RKT.mapK hd k r
  · exact RKT.snoc hd k zk r
theorem RKK.put {d : D} {v : V} {kvs : List (D × D)} {hk : List (Key × V)} (r : RKK K β ρ H kvs hk) (hd : RV K β ρ H d v) (k : Key) : RKK K β ρ H (dput kvs (keyD k) d) (putK hk k v) := by
  unfold dput putK
  rw [r.anyK k]
  split
  · exact RKK.mapK hd k r
  · exact RKK.snoc hd k r
theorem RKT.length : ∀ {kvs : List (D × D)} {hk : List (List Key × V)}, RKT K β ρ H kvs hk → kvs.length = hk.length
  | _, _, .nil => rfl
  | _, _, .cons _ _ r => congrArg (· + 1) (RKT.length r)
theorem RKK.length : ∀ {kvs : List (D × D)} {hk : List (Key × V)}, RKK K β ρ H kvs hk → kvs.length = hk.length
  | _, _, .nil => rfl
  | _, _, .cons _ r => congrArg (· + 1) (RKK.length r)
/-- what the dict at a holds at a key -/
theorem RKd.get {a : Addr} {t : Bool} {kvs : List (D × D)} (h : RKd K β ρ H a t kvs) {x : D} {vx : V} (hx : RV K β ρ H x vx) (hk : x.isKey t = true) : ∃ o, DGet H a vx o ∧ RVo K β ρ H (dlook kvs x) o := by
  cases t with
  | true =>
    obtain ⟨hk', hr, rk⟩ := h
    obtain ⟨ks, rfl⟩ := isT_inv hk
    obtain ⟨b, rfl, hb, _⟩ := hx.tkey
    exact ⟨valV hk' ks, .inr ⟨hk', ks, b, hr, rfl, hb, rfl⟩, rk.look ks⟩
  | false =>
    obtain ⟨hk', hr, rk⟩ := h
    obtain ⟨k, rfl⟩ := isK_inv hk
    exact ⟨valV hk' k, .inl ⟨hk', k, hr, hx.key, rfl⟩, rk.look k⟩
theorem RKd.isD {a : Addr} {t : Bool} {kvs : List (D × D)} (h : RKd K β ρ H a t kvs) : IsD H a := by
  cases t with
  | true => obtain ⟨hk, hr, _⟩ := h; exact .inr ⟨hk, hr⟩
  | false => obtain ⟨hk, hr, _⟩ := h; exact .inl ⟨hk, hr⟩
theorem RU.put {a : Addr} {u : HO} {t : Bool} {kvs : List (D × D)} (ha : H a = some u) (h : RU K β ρ H u (.dct t kvs)) {x d : D} {vx v : V} (hx : RV K β ρ H x vx) (hd : RV K β ρ H d v) (hk : x.isKey t = true) (hl : kvs.length < sizeLine) :
    ∃ u', DPut H a vx v (upd H a u') ∧ RU K β ρ H u' (.dct t (dput kvs x d)) := by
  cases t with
  | true =>
    obtain ⟨hk', e, rk⟩ := h
    subst e
    obtain ⟨ks, rfl⟩ := isT_inv hk
    obtain ⟨b, rfl, hb, zk⟩ := hx.tkey
    exact ⟨_, DPut.t ha hb (by rw [← rk.length]; exact hl), _, rfl, rk.put hd ks zk⟩
  | false =>
    obtain ⟨hk', e, rk⟩ := h
    subst e
    obtain ⟨k, rfl⟩ := isK_inv hk
    rw [hx.key]
    exact ⟨_, DPut.k ha (by rw [← rk.length]; exact hl), _, rfl, rk.put hd k⟩
theorem RVo.isSome {o : Option D} {o' : Option V} (h : RVo K β ρ H o o') : o.isSome = o'.isSome := by
  cases o <;> cases o' <;> first | rfl | exact h.elim
end

/-! ### in -/
theorem toPys_map : ∀ ds : List D, D.toPys ds = ds.map D.toPy
  | [] => rfl
  | d :: ds => by rw [D.toPys, List.map_cons, toPys_map ds]
theorem shaped_all : ∀ ds : List D, ds.all D.cmpOk = true → PyData.canLayAll0 (D.toPys ds) = true ∧ PyData.depthAll (D.toPys ds) ≤ 60
  | [], _ => ⟨rfl, Nat.zero_le _⟩
  | d :: ds, h => by
    rw [List.all_cons, Bool.and_eq_true] at h
    obtain ⟨h1, h2⟩ := shaped_all ds h.2
    have h3 := h.1
    unfold D.cmpOk at h3
    rw [Bool.and_eq_true] at h3
    have h4 := of_decide_eq_true h3.2
    rw [D.toPys]
    refine ⟨by rw [PyData.canLayAll0, h3.1, h1]; rfl, ?_⟩
    rw [PyData.depthAll]
    omega
section
variable {X : Cx}
def rInL (K : PySem.W.Frag) : R2 := fun x y H Q => ∃ d ds, Dp K H x d ∧ (Dp K H y (.list ds) ∨ Dp K H y (.tuple ds)) ∧ d.canLay0 = true ∧ d.depth ≤ 60 ∧ PyData.canLayAll0 ds = true ∧ PyData.depthAll ds ≤ 60 ∧ Q (.bl (ds.any fun z => PyData.eqv z d)) H
def rNotInL (K : PySem.W.Frag) : R2 := fun x y H Q => ∃ d ds, Dp K H x d ∧ (Dp K H y (.list ds) ∨ Dp K H y (.tuple ds)) ∧ d.canLay0 = true ∧ d.depth ≤ 60 ∧ PyData.canLayAll0 ds = true ∧ PyData.depthAll ds ≤ 60 ∧ Q (.bl (!ds.any fun z => PyData.eqv z d)) H
theorem op_inL (hu : X.A.units + 65 < cLine) : OpR X (compareOp .In) (rInL X.K) := by
  intro pins s σ H x y v u Q I rx ry h
  obtain ⟨d, ds, hd, he, c1, c2, c3, c4, q⟩ := h
  obtain ⟨as, r1⟩ := Dp.reads I d x v hd rx
  rcases he with he | he
  · obtain ⟨bs, r2⟩ := Dp.reads I (.list ds) y u he ry
    exact SeqAt.in_list_reads r2 r1 c3 c1 (by omega) ⟨.bl _, H, I, rfl, q⟩
  · obtain ⟨bs, r2⟩ := Dp.reads I (.tuple ds) y u he ry
    exact SeqAt.in_tuple_reads r2 r1 c3 c1 (by omega) ⟨.bl _, H, I, rfl, q⟩
theorem op_notInL (hu : X.A.units + 65 < cLine) : OpR X (compareOp .NotIn) (rNotInL X.K) := by
  intro pins s σ H x y v u Q I rx ry h
  obtain ⟨d, ds, hd, he, c1, c2, c3, c4, q⟩ := h
  obtain ⟨as, r1⟩ := Dp.reads I d x v hd rx
  rcases he with he | he
  · obtain ⟨bs, r2⟩ := Dp.reads I (.list ds) y u he ry
    exact SeqAt.notIn_list_reads r2 r1 c3 c1 (by omega) ⟨.bl _, H, I, rfl, q⟩
  · obtain ⟨bs, r2⟩ := Dp.reads I (.tuple ds) y u he ry
    exact SeqAt.notIn_tuple_reads r2 r1 c3 c1 (by omega) ⟨.bl _, H, I, rfl, q⟩
theorem op_inDict (hu : X.A.units + 1 < cLine) : OpR X (compareOp .In) (fun x y H Q => ∃ a o, y = .ref a ∧ DGet H a x o ∧ Q (.bl o.isSome) H) := by
  intro pins s σ H x y v u Q I rx ry h
  obtain ⟨a, o, rfl, g, q⟩ := h
  cases ry
  exact d_in hu I g rx fun s' I' => ⟨.bl _, H, I', rfl, q⟩
theorem op_notInDict (hu : X.A.units + 1 < cLine) : OpR X (compareOp .NotIn) (fun x y H Q => ∃ a o, y = .ref a ∧ DGet H a x o ∧ Q (.bl (!o.isSome)) H) := by
  intro pins s σ H x y v u Q I rx ry h
  obtain ⟨a, o, rfl, g, q⟩ := h
  cases ry
  exact d_notIn hu I g rx fun s' I' => ⟨.bl _, H, I', rfl, q⟩
theorem isin_inv {K : PySem.W.Frag} {β : Addr → Prop} {ρ : List Addr} {σd : DEnv} {σ : L2.St} {H : Hp} {S : Store} {x y : D} {vx vy : V} {b : Bool} (r : Rel K β ρ σd S σ H) (rx : RV K β ρ H x vx) (ry : RV K β ρ H y vy) (e : D.isin? S x y = some b) :
    (∃ a o, vy = .ref a ∧ DGet H a vx o ∧ b = o.isSome) ∨ ∃ d ds, Dp K H vx d ∧ (Dp K H vy (.list ds) ∨ Dp K H vy (.tuple ds)) ∧ d.canLay0 = true ∧ d.depth ≤ 60 ∧ PyData.canLayAll0 ds = true ∧ PyData.depthAll ds ≤ 60 ∧ b = ds.any fun z => PyData.eqv z d := by
  unfold D.isin? at e
  cases q : y.dict? S with
  | some p =>
    obtain ⟨t, kvs⟩ := p
    simp only [q] at e
    by_cases hk : x.isKey t = true
    · rw [if_pos hk] at e
      obtain ⟨a, rfl, hd⟩ := ry.dict r q
      obtain ⟨o, g, ro⟩ := hd.get rx hk
      exact .inl ⟨a, o, rfl, g, by rw [← ro.isSome]; exact (Option.some.inj e).symm⟩
    · rw [if_neg hk] at e; cases e
  | none =>
    simp only [q] at e
    cases q2 : y.seq? S with
    | none => simp only [q2] at e; cases e
    | some ys =>
      simp only [q2] at e
      cases q3 : D.rd S x with
      | none => simp only [q3] at e; cases e
      | some a =>
        cases q4 : D.rds S ys with
        | none => simp only [q3, q4] at e; cases e
        | some bs =>
          simp only [q3, q4] at e
          by_cases hc : (a.cmpOk && bs.all D.cmpOk) = true
          · rw [if_pos hc] at e
            rw [Bool.and_eq_true] at hc
            obtain ⟨d1, d2, d3⟩ := rx.dp r q3 hc.1
            obtain ⟨s1, s2⟩ := shaped_all bs hc.2
            obtain ⟨p, vs, rfl, hl, z, rv⟩ := ry.seq r q2
            have hall : DpAll K H vs (D.toPys bs) := dp_subs (dp_rdN r 8) ys vs bs rv q4 s1
            refine .inr ⟨_, D.toPys bs, d1, ?_, d2, d3, s1, s2, ?_⟩
            · rcases hl with hl | hl
              · exact .inl (.lst hl hall)
              · exact .inr (.tup hl hall)
            · rw [← Option.some.inj e, toPys_map, List.any_map]
              rfl
          · rw [if_neg hc] at e; cases e
theorem cmp_in (hu : X.A.units + 65 < cLine) : Cmp2 X (compareOp .In) D.isin? := by
  refine ⟨_, (op_inDict (by omega)).or (op_inL hu), fun β ρ σd S σ H x y vx vy b Q r rx ry e q => ?_⟩
  rcases isin_inv r rx ry e with ⟨a, o, e1, g, e2⟩ | ⟨d, ds, h1, h2, h3, h4, h5, h6, e2⟩
  · subst e2; exact .inl ⟨a, o, e1, g, q⟩
  · subst e2; exact .inr ⟨d, ds, h1, h2, h3, h4, h5, h6, q⟩
theorem cmp_nin (hu : X.A.units + 65 < cLine) : Cmp2 X (compareOp .NotIn) fun S x y => (D.isin? S x y).map not := by
  refine ⟨_, (op_notInDict (by omega)).or (op_notInL hu), fun β ρ σd S σ H x y vx vy b Q r rx ry e q => ?_⟩
  obtain ⟨b', e', eb⟩ := Option.map_eq_some_iff.mp e
  subst eb
  rcases isin_inv r rx ry e' with ⟨a, o, e1, g, e2⟩ | ⟨d, ds, h1, h2, h3, h4, h5, h6, e2⟩
  · subst e2; exact .inl ⟨a, o, e1, g, q⟩
  · subst e2; exact .inr ⟨d, ds, h1, h2, h3, h4, h5, h6, q⟩
/-- the comparison's operator in the text -/
def Cop.op : Cop → CmpOp
  | .eq => .Eq | .ne => .NotEq | .lt => .Lt | .le => .LtE | .gt => .Gt | .ge => .GtE | .isin => .In | .nin => .NotIn | .is => .Is | .isn => .IsNot
theorem cmp_all (hu : X.A.units + 65 < cLine) (c : Cop) : Cmp2 X (compareOp c.op) (cmpop c) := by
  cases c with
  | eq => exact cmp_eq (by omega)
  | ne => exact cmp_ne (by omega)
  | lt => exact cmp_lt (by omega)
  | le => exact cmp_le (by omega)
  | gt => exact cmp_gt (by omega)
  | ge => exact cmp_ge (by omega)
  | isin => exact cmp_in hu
  | nin => exact cmp_nin hu
  | is => exact cmp_is
  | isn => exact cmp_isn
end

/-! ### arithmetic, +, * -/
section
variable {X : Cx}
theorem op_powW : OpR X (binaryOp .Pow) (rI (fun i j => powOk i j = true) fun i j => .int (i ^ j.toNat)) := opI fun i j _ _ _ _ _ hc q => by
  have h := of_decide_eq_true hc
  refine pow_int h.1 ?_ q
  have h1 : Builtin.Int.intBits i ≤ 2001 := by
    unfold Builtin.Int.intBits
    split <;> omega
  have h2 : (Builtin.Int.intBits i : Int) * j ≤ 2001 * 1000 := Int.mul_le_mul (by omega) h.2.1 h.1 (by decide)
  omega
theorem list_addSl (l : Addr) (items : Array Value) (n : Nat) (sl : Array (Option Value)) (b : Addr) (items2 : Array Value) (n2 : Nat) (sl2 : Array (Option Value)) (hc0 : items.size + items2.size ≤ sizeLine) :
    Meets (Builtin.«list.__add__» ⟨[.ref l, .ref b], []⟩) (fun _ R s => s.heap.get? l = some { cls := .type "list", dict := none, data := .seq items n, slots := sl } ∧ s.heap.get? b = some { cls := .type "list", dict := none, data := .seq items2 n2, slots := sl2 } ∧
      R (.ok (.ret (Value.ref s.heap.objs.size))) { s with heap := s.heap.push { cls := Value.type "list", data := Data.seq (items ++ items2) }, toks := s.toks }) :=
  .of_wp fun prog w A R s h => by
    obtain ⟨hp, g, d, tk, os⟩ := s; obtain ⟨hl, hb, h⟩ := h
    have f1 := AutoSeq1.idx_int; have f2 := AutoSeq1.sub_tuple_tuple; have f3 := AutoSeq1.sub_list_list; have f4 := AutoSeq1.sub_tuple_list; have f5 := AutoSeq1.sub_list_tuple
    wp_walk using wpAny_loadPart' hl, wpAny_loadPart' hb
    exact ⟨_, rfl, h⟩
theorem op_catL : OpR X (binaryOp .Add) (fun x y H Q => ∃ l b xs zs, x = .ref l ∧ y = .ref b ∧ SqL X.K H l xs ∧ SqL X.K H b zs ∧ xs.length + zs.length ≤ sizeLine ∧ ∀ p, H p = none → Q (.ref p) (upd H p (.lst (xs ++ zs)))) := by
  intro pins s σ H x y v u Q I rx ry h
  obtain ⟨l, b, xs, zs, rfl, rfl, hH, hB, hz, q⟩ := h
  cases rx
  cases ry
  obtain ⟨its, r, ⟨o, n, e, hc, hdd, hs⟩, hl⟩ := I.list hH
  obtain ⟨its2, r2, ⟨o2, n2, e2, hc2, hdd2, hs2⟩, hl2⟩ := I.list hB
  obtain ⟨cls, dd, data, sl⟩ := o
  obtain ⟨cls2, dd2, data2, sl2⟩ := o2
  simp only at hc hdd hs hc2 hdd2 hs2
  subst hc hdd hs hc2 hdd2 hs2
  have l1 := r.length
  have l2 := r2.length
  refine PySem.concat_meets ⟨_, e, rfl⟩ ⟨_, e2, rfl⟩ noFill_list_add seq_list_add PySem.F.slot_list_add PySem.F.entry_list_add (PySem.F.args_list_add_2 _ _) (list_addSl l its.toArray n sl b its2.toArray n2 sl2 (by rw [List.size_toArray, List.size_toArray]; omega)) ⟨e, e2, ?_⟩
  have ea : its.toArray ++ its2.toArray = (its ++ its2).toArray := by simp
  rw [ea]
  exact ⟨.ref _, _, I.lnew (t' := s.toks) (r.append r2) (by rw [List.length_append]; omega), rfl, q _ I.fresh⟩
theorem list_mulSl (l : Addr) (items : Array Value) (n : Nat) (sl : Array (Option Value)) (x : Int) (u : Tok) (hc0 : ¬(!Builtin.List.listFitsIndex x) = true) (hc1 : ¬items.size * x.toNat > (2 ^ 63 - 1) / 8) (hc2 : ¬Builtin.List.listTooLong (items.size * x.toNat) = true) :
    Meets (Builtin.«list.__mul__» ⟨[.ref l, .int x u], []⟩) (fun _ R s => s.heap.get? l = some { cls := .type "list", dict := none, data := .seq items n, slots := sl } ∧
      R (.ok (.ret (Value.ref s.heap.objs.size))) { s with heap := s.heap.push { cls := Value.type "list", data := Data.seq (List.foldl (fun x1 x2 => x1 ++ x2) #[] (List.replicate (if items.isEmpty = true then 0 else x.toNat) items)) }, toks := s.toks }) :=
  .of_wp fun prog w A R s h => by
    obtain ⟨hp, g, d, tk, os⟩ := s; obtain ⟨hl, h⟩ := h
    have hsz := AutoListH.joined_fits hc2
    wp_walk; refine wpAny_ite_false (decide_eq_false (Nat.not_lt.mpr hsz)) ?_; wp_walk; exact ⟨_, rfl, h⟩
theorem int_rmulSl (a : Int) (t : Tok) (l : Addr) (items : Array Value) (n : Nat) (sl : Array (Option Value)) :
    Meets (Builtin.«int.__rmul__» ⟨[.int a t, .ref l], []⟩) (fun _ R s => s.heap.get? l = some { cls := .type "list", dict := none, data := .seq items n, slots := sl } ∧ R (.ok (.ret Value.notImplemented)) s) :=
  .of_wp fun prog w A R s h => by obtain ⟨hp, g, d, tk, os⟩ := s; obtain ⟨hl, h⟩ := h; wp_walk; exact ⟨_, rfl, h⟩
theorem op_repL : OpR X (binaryOp .Mult) (fun x y H Q => ∃ l k xs, x = .ref l ∧ y = .int k ∧ SqL X.K H l xs ∧ 0 ≤ k ∧ k ≤ 1000 ∧ xs.length ≤ 1000 ∧ ∀ p, H p = none → Q (.ref p) (upd H p (.lst (List.replicate k.toNat xs).flatten))) := by
  intro pins s σ H x y v u Q I rx ry h
  obtain ⟨l, k, xs, rfl, rfl, hH, h1, h2, hz, q⟩ := h
  cases rx
  obtain ⟨t, rfl⟩ := ry
  obtain ⟨its, r, ⟨o, n, e, hc, hdd, hs⟩, hl⟩ := I.list hH
  obtain ⟨cls, dd, data, sl⟩ := o
  simp only at hc hdd hs
  subst hc hdd hs
  have hll := r.length
  have hm : its.toArray.size * k.toNat ≤ 1000 * 1000 := Nat.mul_le_mul (by rw [List.size_toArray]; omega) (by omega)
  have hlen : its.toArray.size * k.toNat ≤ sizeLine := by rw [sizeLine_eq]; omega
  have hcap : ¬ its.toArray.size * k.toNat > (2 ^ 63 - 1) / 8 := by omega
  have hfit : ¬ (!Builtin.List.listFitsIndex k) = true := by
    rw [fitsIndex_both (by omega) (by omega)]
    exact Bool.false_ne_true
  have hlong : ¬ Builtin.List.listTooLong (its.toArray.size * k.toNat) = true := by
    rw [notLongL hlen]
    exact Bool.false_ne_true
  have hnew : List.foldl (fun x1 x2 => x1 ++ x2) #[] (List.replicate (if its.toArray.isEmpty = true then 0 else k.toNat) its.toArray) = (List.replicate k.toNat its).flatten.toArray := by
    rw [size_rep]
    cases its with
    | nil => simp
    | cons a r' => rw [if_neg (by simp)]
  refine wpAny_binaryOp_repeat_ref (T := "list") (U := "int") (by decide) ⟨_, e, rfl⟩ (fun s' => typeIs_int s' k t) noFill_list_mul F.fills_int_mul F.slot_int_rmul repeat_list F.slot_int_index.lookup
    (call_meets F.slot_int_rmul (typeIs_int s k t) F.entry_int_rmul (F.args_int_rmul_2 _ _) (int_rmulSl k t l its.toArray n sl)
      ⟨e, rfl, ⟨_, e, rfl⟩, call_meets F.slot_list_mul ⟨_, e, rfl⟩ F.entry_list_mul (F.args_list_mul_2 _ _) (list_mulSl l its.toArray n sl k t hfit hcap hlong) ⟨e, ?_⟩⟩)
  rw [hnew]
  have hflen : (List.replicate k.toNat xs).flatten.length ≤ sizeLine := by
    rw [PyProof.Rows.lm_len_rep_flat, sizeLine_eq]
    have a1 : k.toNat * xs.length ≤ 1000 * 1000 := Nat.mul_le_mul (by omega) hz
    omega
  exact ⟨.ref _, _, I.lnew (t' := s.toks) (r.rep k.toNat) hflen, rfl, q _ I.fresh⟩
end
end DD

namespace DD
open PySem PySem.Spec PyProof.Rows L2
theorem tuple_mul1 (l : Addr) (items : Array Value) (n : Nat) (dd : Option Addr) (sl : Array (Option Value)) (u : Tok) (c1 : (items.isEmpty || (1 : Int) == 1) = true) :
    Meets (Builtin.«tuple.__mul__» ⟨[.ref l, .int 1 u], []⟩) (fun _ R s => s.heap.get? l = some { cls := .type "tuple", dict := dd, data := .seq items n, slots := sl } ∧
      R (.ok (.ret (Value.ref l))) s) :=
  .of_wp fun prog w A R s h => by
    obtain ⟨hp, g, d, tk, os⟩ := s
    obtain ⟨hl, h⟩ := h
    have f1 := AutoSeq1.idx_int
    wp_walk using wpAny_loadPart' hl
    repeat (first
      | (refine wpAny_ite_true (decide_eq_true (by rw [c1])) ?_; wp_walk using wpAny_loadPart' hl)
      | (refine wpAny_ite_false (decide_eq_false (by decide)) ?_; wp_walk using wpAny_loadPart' hl))
    exact ⟨_, rfl, h⟩
section
variable {X : Cx}
theorem op_repT1 : OpR X (binaryOp .Mult) (fun x y H Q => ∃ l xs, x = .ref l ∧ y = .int 1 ∧ SqT X.K H l xs ∧ Q (.ref l) H) := by
  intro pins s σ H x y v u Q I rx ry h
  obtain ⟨l, xs, rfl, rfl, hT, q⟩ := h
  cases rx
  obtain ⟨t, rfl⟩ := ry
  obtain ⟨its, r, ⟨⟨cls, dd, data, sl⟩, ho, hc, n, hd⟩, hs⟩ := I.tuple hT
  simp only at hc hd
  subst hc hd
  refine wpAny_binaryOp_repeat_ref (T := "tuple") (U := "int") (by decide) ⟨_, ho, rfl⟩ (fun s' => typeIs_int s' 1 t) noFill_tuple_mul F.fills_int_mul F.slot_int_rmul repeat_tuple F.slot_int_index.lookup
    (call_meets F.slot_int_rmul (typeIs_int s 1 t) F.entry_int_rmul (F.args_int_rmul_2 _ _) (int_rmul_tuple 1 t l its.toArray n dd sl)
      ⟨ho, rfl, ⟨_, ho, rfl⟩, call_meets F.slot_tuple_mul ⟨_, ho, rfl⟩ F.entry_tuple_mul (F.args_tuple_mul_2 _ _) (tuple_mul1 l its.toArray n dd sl t (by simp)) ⟨ho, ?_⟩⟩)
  exact ⟨.ref l, H, I, rfl, q⟩
end
def Bop.op : Bop → Operator
  | .add => .Add | .sub => .Sub | .mul => .Mult | .fdiv => .FloorDiv | .mod => .Mod | .pow => .Pow
section
variable {X : Cx}
theorem op_mulAll : OpR X (binaryOp .Mult) (rI (fun i j => mulOk i j = true) fun i j => .int (i * j)) := by
  intro pins s σ H x y v u Q I rx ry h
  obtain ⟨i, j, e1, e2, c, q⟩ := h
  rcases of_decide_eq_true c with c | c | c
  · exact op_mul pins s σ H x y v u Q I rx ry ⟨i, j, e1, e2, .inl c, q⟩
  · exact op_mul pins s σ H x y v u Q I rx ry ⟨i, j, e1, e2, .inr c, q⟩
  · exact op_mulW pins s σ H x y v u Q I rx ry ⟨i, j, e1, e2, c, q⟩
theorem rep_len {α : Type} (n : Nat) (xs : List α) : (List.replicate n xs).flatten.length = n * xs.length := by
  induction n with
  | zero => simp
  | succ n ih => rw [List.replicate_succ, List.flatten_cons, List.length_append, ih, Nat.succ_mul, Nat.add_comm]
theorem RVs.rep {K : PySem.W.Frag} {β : Addr → Prop} {ρ : List Addr} {H : Hp} {ds : List D} {vs : List V} (h : RVs K β ρ H ds vs) : ∀ n : Nat, RVs K β ρ H (List.replicate n ds).flatten (List.replicate n vs).flatten
  | 0 => .nil
  | n + 1 => by
    rw [List.replicate_succ, List.replicate_succ, List.flatten_cons, List.flatten_cons]
    exact h.append (RVs.rep h n)
theorem bin_all (op : Bop) (m : Bool) : Op2 X (binaryOp op.op) (fun S x y => binop op m S x y) := by
  cases op with
  | sub =>
    refine ⟨_, op_sub, fun W β ρ σd S σ H x y vx vy Q r rx ry h => ?_⟩
    cases x with
    | int i =>
      cases y with
      | int j => exact ⟨i, j, rx.int_inv, ry.int_inv, h.val r (.int _)⟩
      | _ => exact h.elim
    | _ => cases y <;> exact h.elim
  | fdiv =>
    refine ⟨_, op_fdivW, fun W β ρ σd S σ H x y vx vy Q r rx ry h => ?_⟩
    cases x with
    | int i =>
      cases y with
      | int j =>
        obtain ⟨c, h⟩ := Pst.okIf h
        exact ⟨i, j, rx.int_inv, ry.int_inv, show CDivW i j from of_decide_eq_true (p := 0 < j ∧ j.natAbs.log2 < 9000) c, h.val r (.int _)⟩
      | _ => exact h.elim
    | _ => cases y <;> exact h.elim
  | mod =>
    refine ⟨_, op_mod, fun W β ρ σd S σ H x y vx vy Q r rx ry h => ?_⟩
    cases x with
    | int i =>
      cases y with
      | int j =>
        obtain ⟨c, h⟩ := Pst.okIf h
        exact ⟨i, j, rx.int_inv, ry.int_inv, of_decide_eq_true c, h.val r (.int _)⟩
      | _ => exact h.elim
    | _ => cases y <;> exact h.elim
  | pow =>
    refine ⟨_, op_powW, fun W β ρ σd S σ H x y vx vy Q r rx ry h => ?_⟩
    cases x with
    | int i =>
      cases y with
      | int j =>
        obtain ⟨c, h⟩ := Pst.okIf h
        exact ⟨i, j, rx.int_inv, ry.int_inv, c, h.val r (.int _)⟩
      | _ => exact h.elim
    | _ => cases y <;> exact h.elim
  | add =>
    refine ⟨_, op_add.or (op_add_str.or (op_catA.or op_catL)), fun W β ρ σd S σ H x y vx vy Q r rx ry h => ?_⟩
    have lists : ∀ {a b : D}, x = a → y = b → Pst X.K β ρ σd σ H W (match a.list? S, b.list? S with
        | some xs, some ys => okIf (decide (xs.length + ys.length ≤ sizeLine)) (mk m (.lst (xs ++ ys)) S)
        | _, _ => R.stuck) (ToV X.K β Q) → ∃ l b xs zs, vx = .ref l ∧ vy = .ref b ∧ SqL X.K H l xs ∧ SqL X.K H b zs ∧ xs.length + zs.length ≤ sizeLine ∧ ∀ p, H p = none → Q (.ref p) (upd H p (.lst (xs ++ zs))) := fun {a b} ea eb h => by
      subst ea eb
      cases e1 : x.list? S with
      | none => rw [e1] at h; exact h.elim
      | some xs =>
        cases e2 : y.list? S with
        | none => rw [e1, e2] at h; exact h.elim
        | some ys =>
          simp only [e1, e2] at h
          obtain ⟨c, h⟩ := Pst.okIf h
          have c := of_decide_eq_true c
          obtain ⟨p, vs, e3, l1, z1, r1⟩ := rx.list r e1
          obtain ⟨q, us, e4, l2, z2, r2⟩ := ry.list r e2
          have n1 := r1.length
          have n2 := r2.length
          exact ⟨p, q, vs, us, e3, e4, l1, l2, by omega, fun p hp => mk_lst r (r1.append r2) (by rw [List.length_append]; omega) h hp⟩
    cases x with
    | int i =>
      cases y with
      | int j => exact .inl ⟨i, j, rx.int_inv, ry.int_inv, h.val r (.int _)⟩
      | _ => exact h.elim
    | str i =>
      cases y with
      | str j =>
        obtain ⟨c, h⟩ := Pst.okIf h
        exact .inr (.inl ⟨i, j, rx.str_inv, ry.str_inv, of_decide_eq_true c, h.val r (.str _)⟩)
      | _ => exact h.elim
    | tup xs =>
      cases y with
      | tup ys =>
        obtain ⟨c, h⟩ := Pst.okIf h
        have c := of_decide_eq_true c
        obtain ⟨a, vs, rfl, h1, h3, h4⟩ := rx.tup_inv
        obtain ⟨b, us, rfl, k1, k3, k4⟩ := ry.tup_inv
        have n1 := h4.length
        have n2 := k4.length
        refine .inr (.inr (.inl ⟨a, b, vs, us, rfl, rfl, SqT.of h1, SqT.of k1, by omega, fun e => ?_, fun _ e => ?_, fun _ _ p hp => ?_⟩))
        · subst e
          have : xs = [] := List.eq_nil_of_length_eq_zero n1
          subst this
          exact h.val r ry
        · subst e
          have : ys = [] := List.eq_nil_of_length_eq_zero n2
          subst this
          rw [List.append_nil] at h
          exact h.val r rx
        · exact mk_tup r (h4.append k4) (by rw [List.length_append]; omega) h hp
      | _ => exact h.elim
    | lst xs =>
      cases y with
      | lst ys => exact .inr (.inr (.inr (lists rfl rfl h)))
      | ref j => exact .inr (.inr (.inr (lists rfl rfl h)))
      | _ => exact h.elim
    | ref i =>
      cases y with
      | lst ys => exact .inr (.inr (.inr (lists rfl rfl h)))
      | ref j => exact .inr (.inr (.inr (lists rfl rfl h)))
      | _ => exact .inr (.inr (.inr (lists rfl rfl h)))
    | non => cases y <;> exact h.elim
    | bl b => cases y <;> exact h.elim
    | dct t kvs => cases y <;> exact h.elim
  | mul =>
    refine ⟨_, op_mulAll.or (op_repT.or (op_repT1.or op_repL)), fun W β ρ σd S σ H x y vx vy Q r rx ry h => ?_⟩
    have lists : ∀ {a : D} {k : Int}, x = a → y = .int k → Pst X.K β ρ σd σ H W (match a.list? S with
        | some xs => okIf (decide (0 ≤ k ∧ k ≤ 1000 ∧ xs.length ≤ 1000)) (mk m (.lst (List.replicate k.toNat xs).flatten) S)
        | none => R.stuck) (ToV X.K β Q) → ∃ l k xs, vx = .ref l ∧ vy = .int k ∧ SqL X.K H l xs ∧ 0 ≤ k ∧ k ≤ 1000 ∧ xs.length ≤ 1000 ∧ ∀ p, H p = none → Q (.ref p) (upd H p (.lst (List.replicate k.toNat xs).flatten)) := fun {a k} ea eb hh => by
      subst ea eb
      cases e1 : x.list? S with
      | none => rw [e1] at hh; exact hh.elim
      | some xs =>
        simp only [e1] at hh
        obtain ⟨c, hh⟩ := Pst.okIf hh
        have c := of_decide_eq_true c
        obtain ⟨p, vs, e3, l1, z1, r1⟩ := rx.list r e1
        have n1 := r1.length
        refine ⟨p, k, vs, e3, ry.int_inv, l1, c.1, c.2.1, by omega, fun p hp => mk_lst r (r1.rep k.toNat) ?_ hh hp⟩
        rw [rep_len, sizeLine_eq]
        have a1 : k.toNat * vs.length ≤ 1000 * 1000 := Nat.mul_le_mul (by omega) (by omega)
        omega
    cases y with
    | int k =>
      cases x with
      | int i =>
        obtain ⟨c, h⟩ := Pst.okIf h
        exact .inl ⟨i, k, rx.int_inv, ry.int_inv, c, h.val r (.int _)⟩
      | tup xs =>
        obtain ⟨c, h⟩ := Pst.okIf h
        have c := of_decide_eq_true c
        obtain ⟨a, vs, rfl, h1, h3, h4⟩ := rx.tup_inv
        have n1 := h4.length
        by_cases hk : k = 1
        · subst hk
          have e : (List.replicate (1 : Int).toNat xs).flatten = xs := by simp
          rw [e] at h
          exact .inr (.inr (.inl ⟨a, vs, rfl, ry.int_inv, SqT.of h1, h.val r rx⟩))
        · refine .inr (.inl ⟨a, k, vs, rfl, ry.int_inv, SqT.of h1, fun e => ?_, by omega, by omega, by omega, fun p hp => mk_tup r (h4.rep k.toNat) ?_ h hp⟩)
          · subst e
            simp at n1
            rw [n1] at c
            simp at c
          · rw [rep_len, sizeLine_eq]
            have a1 : k.toNat * vs.length ≤ 1000 * 1000 := Nat.mul_le_mul (by omega) (by omega)
            omega
      | lst xs => exact .inr (.inr (.inr (lists rfl rfl h)))
      | ref i => exact .inr (.inr (.inr (lists rfl rfl h)))
      | non => exact h.elim
      | bl b => exact h.elim
      | str b => exact h.elim
      | dct t kvs => exact h.elim
    | _ => cases x <;> exact h.elim
end
end DD

namespace DD
open PySem PySem.Spec PyProof.Rows L2

/-- a called thing does what the evaluator's does -/
def OpN (X : Cx) (f : Value) (g : Store → List D → R D) : Prop := ∃ r : List V → Hp → VK → Prop, CallR X f r ∧
  ∀ (W : WS) (β : Addr → Prop) (ρ : List Addr) (σd : DEnv) (S : Store) (σ : L2.St) (H : Hp) (xs : List D) (vs : List V) (Q : VK), Rel X.K β ρ σd S σ H → RVs X.K β ρ H xs vs →
    Pst X.K β ρ σd σ H W (g S xs) (ToV X.K β Q) → r vs H Q
theorem CallR.or {X : Cx} {f : Value} {r r' : List V → Hp → VK → Prop} (h : CallR X f r) (h' : CallR X f r') : CallR X f (fun xs H Q => r xs H Q ∨ r' xs H Q) := by
  intro pins s σ H xs us Q I rv q
  rcases q with q | q
  · exact h pins s σ H xs us Q I rv q
  · exact h' pins s σ H xs us Q I rv q
section
variable {X : Cx}
/-! ### len -/
theorem call_len_dict' : CallR X (.builtin "len") (fun xs H Q => ∃ p n, xs = [.ref p] ∧ ((∃ kvs, Rd H p (.dK kvs) ∧ n = kvs.length) ∨ ∃ kvs, Rd H p (.dT kvs) ∧ n = kvs.length) ∧ Q (.int (n : Nat)) H) := by
  intro pins s σ H xs us Q I r h
  obtain ⟨p, n, rfl, hp, q⟩ := h
  obtain ⟨u, rfl, rx⟩ := vals1 r
  cases rx
  rcases hp with ⟨kvs, hp, rfl⟩ | ⟨kvs, hp, rfl⟩
  · exact d_len I hp fun t s' I' => ⟨.int ((kvs.length : Nat) : Int), H, I', ⟨t, rfl⟩, q⟩
  · obtain ⟨z, hd, ys, rel, dd⟩ := dt_rd I.hok hp
    have hl : kvs.length = ys.length := Paired.length rel
    refine call_len_dictH hd dd (by rw [← hl]; rw [sizeLine_eq] at z; omega) ?_
    rw [← hl]
    exact ⟨.int ((kvs.length : Nat) : Int), H, I.tok _, ⟨_, rfl⟩, q⟩
theorem pr_len (m : Bool) : OpN X (.builtin "len") (prim .len m) := by
  refine ⟨_, CallR.or call_len_seq (CallR.or call_len_str call_len_dict'), fun W β ρ σd S σ H xs vs Q r rv h => ?_⟩
  match xs, rv, h with
  | [d], rv, h =>
    obtain ⟨v, rfl, rd⟩ := rv.one_inv
    have h : Pst X.K β ρ σd σ H W (match d.str? with
      | some x => okIf (decide (x.length ≤ sizeLine)) (R.ok (.int x.length) S)
      | none => match d.seq? S with
        | some xs => .ok (.int xs.length) S
        | none => match d.dict? S with
          | some (_, kvs) => .ok (.int kvs.length) S
          | none => .stuck) (ToV X.K β Q) := h
    cases e0 : d.str? with
    | some x =>
      rw [e0] at h
      cases d with
      | str y =>
        cases e0
        obtain ⟨c, h⟩ := Pst.okIf h
        rw [rd.str_inv]
        exact .inr (.inl ⟨x, rfl, of_decide_eq_true c, h.val r (.int _)⟩)
      | _ => cases e0
    | none =>
      rw [e0] at h
      cases e : d.seq? S with
      | some ds =>
        rw [e] at h
        obtain ⟨a, us, rfl, h1, h2, h3⟩ := rd.seq r e
        refine .inl ⟨a, us, rfl, h1, ?_⟩
        rw [← h3.length]
        exact h.val r (.int _)
      | none =>
        rw [e] at h
        cases e2 : d.dict? S with
        | none => rw [e2] at h; exact h.elim
        | some p =>
          obtain ⟨t, kvs⟩ := p
          rw [e2] at h
          obtain ⟨a, rfl, h1⟩ := rd.dict r e2
          cases t with
          | true =>
            obtain ⟨hk, h2, h3⟩ := h1
            refine .inr (.inr ⟨a, hk.length, rfl, .inr ⟨hk, h2, rfl⟩, ?_⟩)
            rw [← h3.length]
            exact h.val r (.int _)
          | false =>
            obtain ⟨hk, h2, h3⟩ := h1
            refine .inr (.inr ⟨a, hk.length, rfl, .inl ⟨hk, h2, rfl⟩, ?_⟩)
            rw [← h3.length]
            exact h.val r (.int _)
  | [], rv, h => exact h.elim
  | _ :: _ :: _, rv, h => exact h.elim
/-! ### isinstance -/
def Ty.name : Ty → String
  | .int => "int" | .bool => "bool" | .str => "str" | .tuple => "tuple" | .list => "list" | .dict => "dict"
theorem kit_tys (K : PySem.W.Frag) : ∀ U T : Ty, PySem.W.kitOne K (.type U.name) (.type T.name) = some (U.sub T) := by
  intro U T
  cases U <;> cases T <;> exact kit_ty (by decide +kernel)
theorem kit_none (K : PySem.W.Frag) : ∀ T : Ty, PySem.W.kitOne K (.type "NoneType") (.type T.name) = some false := by
  intro T
  cases T <;> exact kit_ty (by decide +kernel)
/-- isinstance(x, c), x a list, tuple, dict that is read -/
theorem call_isiR : CallR X (.builtin "isinstance") (fun xs H Q => ∃ (a : Addr) (U T : Ty), xs = [.ref a, .ty T.name] ∧ ((U = .list ∧ ∃ ys, SqL X.K H a ys) ∨ (U = .tuple ∧ ∃ ys, SqT X.K H a ys) ∨ (U = .dict ∧ IsD H a)) ∧ Q (.bl (U.sub T)) H) := by
  intro pins s σ H xs us Q I r h
  obtain ⟨a, U, T, rfl, hU, q⟩ := h
  obtain ⟨u1, u2, rfl, r1, r2⟩ := vals2 r
  cases (show u1 = Value.ref a from r1)
  cases (show u2 = Value.type T.name from r2)
  rcases hU with ⟨rfl, ys, hy⟩ | ⟨rfl, ys, hy⟩ | ⟨rfl, hy⟩
  · obtain ⟨its, rv, pl, z⟩ := I.list hy
    obtain ⟨o, n, e1, e2, _⟩ := pl
    exact PySem.W.kia_one PySem.W.kitx_list I.kIn ⟨o, e1, e2⟩ (kit_tys X.K .list T) (fun z => nomatch z) fun tk => ⟨.bl _, H, I.tok tk, rfl, q⟩
  · obtain ⟨its, rv, pl, z⟩ := I.tuple hy
    obtain ⟨o, e1, e2, _⟩ := pl
    exact PySem.W.kia_one PySem.W.kitx_tuple I.kIn ⟨o, e1, e2⟩ (kit_tys X.K .tuple T) (fun z => nomatch z) fun tk => ⟨.bl _, H, I.tok tk, rfl, q⟩
  · obtain ⟨t1, _, _⟩ := isD_at I hy
    exact PySem.W.kia_one PySem.W.kitx_dict I.kIn t1 (kit_tys X.K .dict T) (fun z => nomatch z) fun tk => ⟨.bl _, H, I.tok tk, rfl, q⟩
/-- the types of what is no object -/
theorem pr_isinst (m : Bool) (T : Ty) : ∃ r : List V → Hp → VK → Prop, CallR X (.builtin "isinstance") r ∧
  ∀ (W : WS) (β : Addr → Prop) (ρ : List Addr) (σd : DEnv) (S : Store) (σ : L2.St) (H : Hp) (d : D) (v : V) (Q : VK), Rel X.K β ρ σd S σ H → RV X.K β ρ H d v →
    Pst X.K β ρ σd σ H W (prim (.isinst T) m S [d]) (ToV X.K β Q) → r [v, .ty T.name] H Q := by
  refine ⟨_, CallR.or call_isi call_isiR, fun W β ρ σd S σ H d v Q r rd h => ?_⟩
  have h : Pst X.K β ρ σd σ H W (match d.isinst? S T with
    | some b => R.ok (.bl b) S
    | none => .stuck) (ToV X.K β Q) := h
  cases e : d.isinst? S T with
  | none => rw [e] at h; exact h.elim
  | some b =>
    rw [e] at h
    have q : Q (.bl b) H := h.val r (.bl _)
    have seq : ∀ U : Ty, (∃ a, v = .ref a ∧ ((U = .list ∧ ∃ ys, SqL X.K H a ys) ∨ (U = .tuple ∧ ∃ ys, SqT X.K H a ys) ∨ (U = .dict ∧ IsD H a))) → some (U.sub T) = some b → (rIsi X.K [v, .ty T.name] H Q) ∨ ∃ (a : Addr) (U T' : Ty), [v, V.ty T.name] = [.ref a, .ty T'.name] ∧ ((U = .list ∧ ∃ ys, SqL X.K H a ys) ∨ (U = .tuple ∧ ∃ ys, SqT X.K H a ys) ∨ (U = .dict ∧ IsD H a)) ∧ Q (.bl (U.sub T')) H := fun U ⟨a, ev, hU⟩ eb => by
      subst ev
      exact .inr ⟨a, U, T, rfl, hU, by rw [Option.some.inj eb]; exact q⟩
    have prm : ∀ (U : Ty), L2.TyX X.K H v (.type U.name) → some (U.sub T) = some b → (rIsi X.K [v, .ty T.name] H Q) ∨ ∃ (a : Addr) (U T' : Ty), [v, V.ty T.name] = [.ref a, .ty T'.name] ∧ ((U = .list ∧ ∃ ys, SqL X.K H a ys) ∨ (U = .tuple ∧ ∃ ys, SqT X.K H a ys) ∨ (U = .dict ∧ IsD H a)) ∧ Q (.bl (U.sub T')) H := fun U ty eb =>
      .inl ⟨v, _, _, _, U.sub T, rfl, .ty _, ty, kit_tys X.K U T, by rw [Option.some.inj eb]; exact q⟩
    unfold D.isinst? at e
    cases d with
    | non => exact .inl ⟨v, _, _, _, false, rfl, .ty _, by rw [rd.non_inv]; exact .base .non, kit_none X.K T, by cases e; exact q⟩
    | bl c => exact prm .bool (by rw [rd.bl_inv]; exact .base (.bl c)) e
    | int c => exact prm .int (by rw [rd.int_inv]; exact .base (.int c)) e
    | str c => exact prm .str (by rw [rd.str_inv]; exact .base (.str c)) e
    | tup c => obtain ⟨a, vs, ev, h1, _⟩ := rd.tup_inv; exact seq .tuple ⟨a, ev, .inr (.inl ⟨rfl, vs, SqT.of h1⟩)⟩ e
    | lst c => obtain ⟨a, vs, ev, h1, _⟩ := rd.list r (show (D.lst c).list? S = some c from rfl); exact seq .list ⟨a, ev, .inl ⟨rfl, vs, h1⟩⟩ e
    | dct t c => obtain ⟨a, ev, h1⟩ := rd.dict r (show (D.dct t c).dict? S = some (t, c) from rfl); exact seq .dict ⟨a, ev, .inr (.inr ⟨rfl, h1.isD⟩)⟩ e
    | ref i =>
      have e : ((D.ref i).ty? S).map (fun U => U.sub T) = some b := e
      obtain ⟨U, e1, e2⟩ := Option.map_eq_some_iff.mp e
      unfold D.ty? at e1
      cases eo : S[i]?.map Ob.inner with
      | none => simp only [eo] at e1; cases e1
      | some o =>
        simp only [eo] at e1
        cases o with
        | lst xs =>
          cases e1
          obtain ⟨a, vs, ev, h1, _⟩ := rd.list r (show (D.ref i).list? S = some xs by unfold D.list?; simp only [eo])
          exact seq .list ⟨a, ev, .inl ⟨rfl, vs, h1⟩⟩ (by rw [← e2])
        | dct t kvs =>
          cases e1
          obtain ⟨a, ev, h1⟩ := rd.dict r (show (D.ref i).dict? S = some (t, kvs) by unfold D.dict?; simp only [eo])
          exact seq .dict ⟨a, ev, .inr (.inr ⟨rfl, h1.isD⟩)⟩ (by rw [← e2])
        | lck o => cases e1
/-! ### the others -/
theorem pr_tuple (m : Bool) : OpN X (.type "tuple") (prim .tuple m) := by
  refine ⟨_, call_tuple_of, fun W β ρ σd S σ H xs vs Q r rv h => ?_⟩
  match xs, rv, h with
  | [d], rv, h =>
    obtain ⟨v, rfl, rd⟩ := rv.one_inv
    have h' : Pst X.K β ρ σd σ H W (match d.seq? S with
      | some xs => R.ok (.tup xs) S
      | none => .stuck) (ToV X.K β Q) := h
    clear h
    cases e : d.seq? S with
    | none => rw [e] at h'; exact h'.elim
    | some ds =>
      rw [e] at h'
      cases d with
      | tup es =>
        cases e
        obtain ⟨a, us, rfl, h1, _⟩ := rd.tup_inv
        exact ⟨a, us, rfl, .inr ⟨SqT.of h1, h'.val r rd⟩⟩
      | lst es =>
        obtain ⟨a, us, rfl, h1, h2, h3⟩ := rd.list r e
        exact ⟨a, us, rfl, .inl ⟨h1, fun l hl => mk_tup r h3 h2 h' hl⟩⟩
      | ref i =>
        obtain ⟨a, us, rfl, h1, h2, h3⟩ := rd.list r e
        exact ⟨a, us, rfl, .inl ⟨h1, fun l hl => mk_tup r h3 h2 h' hl⟩⟩
      | _ => cases e
  | [], rv, h => exact h.elim
  | _ :: _ :: _, rv, h => exact h.elim
theorem pr_list (m : Bool) : OpN X (.type "list") (prim .list m) := by
  refine ⟨_, call_list_of, fun W β ρ σd S σ H xs vs Q r rv h => ?_⟩
  match xs, rv, h with
  | [d], rv, h =>
    obtain ⟨v, rfl, rd⟩ := rv.one_inv
    have h : Pst X.K β ρ σd σ H W (match d.seq? S with
      | some xs => mk m (.lst xs) S
      | none => .stuck) (ToV X.K β Q) := h
    cases e : d.seq? S with
    | none => rw [e] at h; exact h.elim
    | some ds =>
      rw [e] at h
      obtain ⟨a, us, rfl, h1, h2, h3⟩ := rd.seq r e
      exact ⟨a, us, rfl, h1, fun l hl => mk_lst r h3 h2 h hl⟩
  | [], rv, h => exact h.elim
  | _ :: _ :: _, rv, h => exact h.elim
theorem int?_inv {d : D} {i : Int} (e : d.int? = some i) : d = .int i := by
  cases d <;> cases e <;> rfl
theorem bl?_inv {d : D} {i : Bool} (e : d.bl? = some i) : d = .bl i := by
  cases d <;> cases e <;> rfl
theorem str?_inv {d : D} {i : Str} (e : d.str? = some i) : d = .str i := by
  cases d <;> cases e <;> rfl
theorem pr_int (m : Bool) : OpN X (.type "int") (prim .int m) := by
  refine ⟨_, call_int1, fun W β ρ σd S σ H xs vs Q r rv h => ?_⟩
  match xs, rv, h with
  | [d], rv, h =>
    obtain ⟨v, rfl, rd⟩ := rv.one_inv
    have h' : Pst X.K β ρ σd σ H W (match d.int? with
      | some i => R.ok (.int i) S
      | none => match d.bl? with
        | some b => .ok (.int (if b then 1 else 0)) S
        | none => .stuck) (ToV X.K β Q) := h
    clear h
    cases e : d.int? with
    | some i =>
      rw [e] at h'
      have := int?_inv e
      subst this
      exact .inl ⟨i, by rw [rd.int_inv], h'.val r (.int _)⟩
    | none =>
      rw [e] at h'
      cases e2 : d.bl? with
      | none => rw [e2] at h'; exact h'.elim
      | some b =>
        rw [e2] at h'
        have := bl?_inv e2
        subst this
        exact .inr ⟨b, by rw [rd.bl_inv], h'.val r (.int _)⟩
  | [], rv, h => exact h.elim
  | _ :: _ :: _, rv, h => exact h.elim
theorem pr_abs (m : Bool) : OpN X (.builtin "abs") (prim .abs m) := by
  refine ⟨_, call_abs, fun W β ρ σd S σ H xs vs Q r rv h => ?_⟩
  match xs, rv, h with
  | [d], rv, h =>
    obtain ⟨v, rfl, rd⟩ := rv.one_inv
    have h' : Pst X.K β ρ σd σ H W (match d.int? with
      | some i => R.ok (.int (if i < 0 then -i else i)) S
      | none => .stuck) (ToV X.K β Q) := h
    clear h
    cases e : d.int? with
    | some i =>
      rw [e] at h'
      have := int?_inv e
      subst this
      exact ⟨i, by rw [rd.int_inv], h'.val r (.int _)⟩
    | none => rw [e] at h'; exact h'.elim
  | [], rv, h => exact h.elim
  | _ :: _ :: _, rv, h => exact h.elim
theorem pr_str (m : Bool) : OpN X (.type "str") (prim .str m) := by
  refine ⟨_, call_str_int, fun W β ρ σd S σ H xs vs Q r rv h => ?_⟩
  match xs, rv, h with
  | [d], rv, h =>
    obtain ⟨v, rfl, rd⟩ := rv.one_inv
    have h' : Pst X.K β ρ σd σ H W (match d.int? with
      | some i => okIf (decide (i.natAbs.log2 < 1920)) (R.ok (.str (Str.ofString (toString i))) S)
      | none => .stuck) (ToV X.K β Q) := h
    clear h
    cases e : d.int? with
    | some i =>
      rw [e] at h'
      have := int?_inv e
      subst this
      obtain ⟨c, h'⟩ := Pst.okIf h'
      exact ⟨i, by rw [rd.int_inv], of_decide_eq_true c, h'.val r (.str _)⟩
    | none => rw [e] at h'; exact h'.elim
  | [], rv, h => exact h.elim
  | _ :: _ :: _, rv, h => exact h.elim
theorem pr_two {f : Value} {k : Int → Int → Int} (hc : CallR X f (fun xs H Q => ∃ i j, xs = [.int i, .int j] ∧ Q (.int (k i j)) H)) (p : Pr) (m : Bool)
    (hp : ∀ S d e, prim p m S [d, e] = match d.int?, e.int? with | some i, some j => .ok (.int (k i j)) S | _, _ => .stuck) (h0 : ∀ S, prim p m S [] = .stuck) (h1 : ∀ S d, prim p m S [d] = .stuck) (h3 : ∀ S a b c ds, prim p m S (a :: b :: c :: ds) = .stuck) : OpN X f (prim p m) := by
  refine ⟨_, hc, fun W β ρ σd S σ H xs vs Q r rv h => ?_⟩
  match xs, rv, h with
  | [d, e], rv, h =>
    obtain ⟨v, u, rfl, rd, re⟩ := rv.two_inv
    rw [hp] at h
    cases e1 : d.int? with
    | none => rw [e1] at h; exact h.elim
    | some i =>
      cases e2 : e.int? with
      | none => rw [e1, e2] at h; exact h.elim
      | some j =>
        rw [e1, e2] at h
        have := int?_inv e1
        subst this
        have := int?_inv e2
        subst this
        exact ⟨i, j, by rw [rd.int_inv, re.int_inv], h.val r (.int _)⟩
  | [], rv, h => rw [h0] at h; exact h.elim
  | [_], rv, h => rw [h1] at h; exact h.elim
  | _ :: _ :: _ :: _, rv, h => rw [h3] at h; exact h.elim
theorem pr_min2 (hc : X.calm = true) (m : Bool) : OpN X (.builtin "min") (prim .min2 m) := pr_two (call_min2 hc) .min2 m (fun _ _ _ => rfl) (fun _ => rfl) (fun _ _ => rfl) fun _ _ _ _ _ => rfl
theorem pr_max2 (hc : X.calm = true) (m : Bool) : OpN X (.builtin "max") (prim .max2 m) := pr_two (call_max2 hc) .max2 m (fun _ _ _ => rfl) (fun _ => rfl) (fun _ _ => rfl) fun _ _ _ _ _ => rfl
/-- a list of ints -/
theorem RV.ints {K : PySem.W.Frag} {β : Addr → Prop} {ρ : List Addr} {σd : DEnv} {σ : L2.St} {H : Hp} {S : Store} (r : Rel K β ρ σd S σ H) {d : D} {v : V} (h : RV K β ρ H d v) {ns : List Int} (e : (d.list? S).bind (fun xs => xs.mapM D.int?) = some ns) :
    ∃ a, v = .ref a ∧ SqL K H a (ns.map V.int) := by
  obtain ⟨xs, e1, e2⟩ := Option.bind_eq_some_iff.mp e
  obtain ⟨a, vs, rfl, h1, _, h3⟩ := h.list r e1
  obtain ⟨k1, _⟩ := h3.int? e2
  exact ⟨a, rfl, k1 ▸ h1⟩
theorem pr_sum (hc : X.calm = true) (m : Bool) : OpN X (.builtin "sum") (prim .sumL m) := by
  refine ⟨_, cr_sum hc, fun W β ρ σd S σ H xs vs Q r rv h => ?_⟩
  match xs, rv, h with
  | [d], rv, h =>
    obtain ⟨v, rfl, rd⟩ := rv.one_inv
    have h' : Pst X.K β ρ σd σ H W (match (d.list? S).bind fun xs => xs.mapM D.int? with
      | some ns => R.ok (.int ns.sum) S
      | none => .stuck) (ToV X.K β Q) := h
    clear h
    cases e : (d.list? S).bind fun xs => xs.mapM D.int? with
    | some ns =>
      rw [e] at h'
      obtain ⟨a, rfl, h1⟩ := rd.ints r e
      exact ⟨a, ns, rfl, h1, h'.val r (.int _)⟩
    | none => rw [e] at h'; exact h'.elim
  | [], rv, h => exact h.elim
  | _ :: _ :: _, rv, h => exact h.elim
end
end DD

namespace DD
open PySem PySem.Spec PyProof.Rows L2
section
variable {X : Cx}
/-! ### a[i] -/
theorem ix_dict (hu : X.A.units + 1 < cLine) : IxR X (fun x y H Q => ∃ a v, x = .ref a ∧ DGet H a y (some v) ∧ Q v H) := by
  intro value slice pins s σ H x y v u Q I rx ry h hs
  obtain ⟨a, w, rfl, g, q⟩ := h
  cases rx
  exact tail_any (dict_typeIs I g) PySem.F.slot_dict_getitem.lookup (d_getItem hu I g ry fun w' s' I' rw' => ⟨w, H, I', rw', q⟩) hs
theorem atI_rel {K : PySem.W.Frag} {β : Addr → Prop} {ρ : List Addr} {H : Hp} {ds : List D} {vs : List V} {k : Int} {d : D} (h : RVs K β ρ H ds vs) (e : atI ds k = some d) : ∃ v, atI vs k = some v ∧ RV K β ρ H d v := by
  unfold atI at e ⊢
  rw [h.length] at e
  obtain ⟨j, e1, e2⟩ := Option.bind_eq_some_iff.mp e
  obtain ⟨v, e3, e4⟩ := h.get e2
  exact ⟨v, by rw [e1]; exact e3, e4⟩
theorem ix_all (hu : X.A.units + 1 < cLine) : ∃ r : R2, IxR X r ∧ ∀ (β : Addr → Prop) (ρ : List Addr) (σd : DEnv) (S : Store) (σ : L2.St) (H : Hp) (x y : D) (vx vy : V) (d : D) (Q : VK), Rel X.K β ρ σd S σ H → RV X.K β ρ H x vx → RV X.K β ρ H y vy →
    index S x y = some d → (∀ v, RV X.K β ρ H d v → Q v H) → r vx vy H Q := by
  refine ⟨_, (ix_dict hu).or (ix_list.or ix_tup), fun β ρ σd S σ H x y vx vy d Q r rx ry e q => ?_⟩
  unfold index at e
  cases e1 : x.dict? S with
  | some p =>
    obtain ⟨t, kvs⟩ := p
    simp only [e1] at e
    by_cases hk : y.isKey t = true
    · rw [if_pos hk] at e
      obtain ⟨a, rfl, hd⟩ := rx.dict r e1
      obtain ⟨o, g, ro⟩ := hd.get ry hk
      rw [e] at ro
      cases o with
      | none => exact ro.elim
      | some v => exact .inl ⟨a, v, rfl, g, q v ro⟩
    · rw [if_neg hk] at e; cases e
  | none =>
    simp only [e1] at e
    cases e2 : x.seq? S with
    | none => simp only [e2] at e; cases e
    | some xs =>
      simp only [e2] at e
      cases y with
      | int k =>
        obtain ⟨a, vs, rfl, h1, h2, h3⟩ := rx.seq r e2
        obtain ⟨v, e3, e4⟩ := atI_rel h3 e
        rcases h1 with h1 | h1
        · exact .inr (.inl ⟨a, vs, k, v, rfl, ry.int_inv, h1, e3, q v e4⟩)
        · exact .inr (.inr ⟨a, vs, k, v, rfl, ry.int_inv, h1, e3, q v e4⟩)
      | _ => cases e
/-! ### a[lo:hi] -/
theorem cut_rel {K : PySem.W.Frag} {β : Addr → Prop} {ρ : List Addr} {H : Hp} {ds : List D} {vs : List V} (lo hi : Option Int) (h : RVs K β ρ H ds vs) : RVs K β ρ H (cutD ds lo hi) (cutV vs lo hi) := by
  unfold cutD cutV
  rw [h.length]
  exact (h.drop _).take _
theorem sl_all : ∃ r : V → Option Int → Option Int → Hp → VK → Prop, SlR X r ∧ ∀ (m : Bool) (W : WS) (β : Addr → Prop) (ρ : List Addr) (σd : DEnv) (S : Store) (σ : L2.St) (H : Hp) (x : D) (vx : V) (lo hi : Option Int) (Q : VK), Rel X.K β ρ σd S σ H → RV X.K β ρ H x vx →
    Pst X.K β ρ σd σ H W (slice m S x lo hi) (ToV X.K β Q) → r vx lo hi H Q := by
  refine ⟨_, sl_list.or sl_tupA, fun m W β ρ σd S σ H x vx lo hi Q r rx h => ?_⟩
  have lists : ∀ {xs : List D}, x.list? S = some xs → Pst X.K β ρ σd σ H W (mk m (.lst (cutD xs lo hi)) S) (ToV X.K β Q) → rSlL X.K vx lo hi H Q := fun {xs} e h => by
    obtain ⟨a, vs, rfl, h1, h2, h3⟩ := rx.list r e
    exact ⟨a, vs, rfl, h1, fun p hp => mk_lst r (cut_rel lo hi h3) (Nat.le_trans (cutV_length vs lo hi) h2) h hp⟩
  have open' : Pst X.K β ρ σd σ H W (match x.list? S with
    | some xs => mk m (.lst (cutD xs lo hi)) S
    | none => R.stuck) (ToV X.K β Q) → rSlL X.K vx lo hi H Q := fun h => by
    cases e : x.list? S with
    | none => rw [e] at h; exact h.elim
    | some xs => rw [e] at h; exact lists e h
  cases x with
  | tup xs =>
    obtain ⟨a, vs, rfl, h1, h3, h4⟩ := rx.tup_inv
    refine .inr ⟨a, vs, rfl, SqT.of h1, fun hw => ?_, fun hw p hp => ?_⟩
    · have e : cutD xs lo hi = xs := by
        unfold cutD
        rw [h4.length, hw.1, hw.2, List.drop_zero, Nat.sub_zero]
        exact List.take_of_length_le (by rw [h4.length]; exact Nat.le_refl _)
      have h : Pst X.K β ρ σd σ H W (.ok (.tup (cutD xs lo hi)) S) (ToV X.K β Q) := h
      rw [e] at h
      exact h.val r rx
    · exact mk_tup r (cut_rel lo hi h4) (Nat.le_trans (cutV_length vs lo hi) h3) h hp
  | lst xs => exact .inl (open' h)
  | ref i => exact .inl (open' h)
  | non => exact .inl (open' h)
  | bl b => exact .inl (open' h)
  | int b => exact .inl (open' h)
  | str b => exact .inl (open' h)
  | dct t b => exact .inl (open' h)
/-! ### o[i] = v -/
theorem set_dict (hu : X.A.units + 1 < cLine) : PSet X (fun o i v H Q => ∃ a H', o = .ref a ∧ DPut H a i v H' ∧ Q H') := by
  intro pins s σ H o i v ov iv u Q I ro ri rv h
  obtain ⟨a, H', rfl, g, q⟩ := h
  cases ro
  exact d_setItem hu I g ri rv fun s' I' => ⟨H', I', q⟩
theorem PSet.or {r r' : TSet} (h : PSet X r) (h' : PSet X r') : PSet X (fun o i v H Q => r o i v H Q ∨ r' o i v H Q) := by
  intro pins s σ H o i v ov iv u Q I ro ri rv q
  rcases q with q | q
  · exact h pins s σ H o i v ov iv u Q I ro ri rv q
  · exact h' pins s σ H o i v ov iv u Q I ro ri rv q
theorem set_all (hu : X.A.units + 1 < cLine) : ∃ r : TSet, PSet X r ∧ ∀ (β : Addr → Prop) (ρ : List Addr) (σd : DEnv) (S : Store) (σ : L2.St) (H : Hp) (x y d : D) (vx vy v : V) (S' : Store) (Q : Hp → Prop), Rel X.K β ρ σd S σ H → RV X.K β ρ H x vx → RV X.K β ρ H y vy → RV X.K β ρ H d v →
    setIdx S x y d = some S' → (∀ H', Keep ρ H ρ H' → Rel X.K β ρ σd S' σ H' → Q H') → r vx vy v H Q := by
  refine ⟨_, DD.PSet.or set_list (set_dict hu), fun β ρ σd S σ H x y d vx vy v S' Q r rx ry rd e q => ?_⟩
  unfold setIdx at e
  cases x with
  | ref i =>
    simp only at e
    cases eo : S[i]? with
    | none => rw [eo] at e; cases e
    | some o =>
      rw [eo] at e
      cases o with
      | lst xs =>
        cases y with
        | int k =>
          simp only at e
          obtain ⟨j, e1, e2⟩ := Option.map_eq_some_iff.mp e
          subst e2
          obtain ⟨a, u, rfl, hi, ha, ⟨vs, eu, z, rv⟩, hf⟩ := rx.open r eo (fun _ => by simp)
          subst eu
          rw [rv.length] at e1
          refine .inl ⟨a, vs, k, j, rfl, ry.int_inv, ha, e1, q _ (Keep.write (List.mem_of_getElem? hi) hf) (r.write hi hf ⟨_, rfl, by rw [List.length_set]; exact z, rv.set rd j⟩)⟩
        | _ => cases e
      | dct t kvs =>
        simp only at e
        by_cases hc : (y.isKey t && decide (kvs.length < sizeLine)) = true
        · rw [if_pos hc] at e
          rw [Bool.and_eq_true] at hc
          cases e
          obtain ⟨a, u, rfl, hi, ha, hu', hf⟩ := rx.open r eo (fun _ => by simp)
          obtain ⟨u', g, hn⟩ := RU.put ha hu' ry rd hc.1 (of_decide_eq_true hc.2)
          exact .inr ⟨a, _, rfl, g, q _ (Keep.write (List.mem_of_getElem? hi) hf) (r.write hi hf hn)⟩
        · rw [if_neg hc] at e; cases e
      | lck o => cases e
  | _ => cases e
/-! ### methods -/
/-- the receiver is of that type -/
def RcV (K : PySem.W.Frag) (T : String) (x : V) (H : Hp) : Prop := match x with
  | .ref p => (T = "list" ∧ ∃ xs, SqL K H p xs) ∨ (T = "dict" ∧ IsD H p)
  | .str _ => T = "str"
  | _ => False
theorem rcV_is {pins : List (Addr × Obj)} {σ : L2.St} {H : Hp} {s : Shared} {T : String} {x : V} {v : Value} (I : L2.Inv X pins σ H s) (r : RelV x v) (ty : RcV X.K T x H) :
    s.TypeIs v T ∧ ∀ a, v = .ref a → ∃ ob, s.heap.get? a = some ob ∧ ob.dict = none := by
  cases x with
  | str z => exact tyV_is I r (show tyV X.K T (.str z) H from ty)
  | ref p =>
    rcases ty with ⟨rfl, xs, h⟩ | ⟨rfl, h⟩
    · exact tyV_is I r (show tyV X.K "list" (.ref p) H from .inl ⟨rfl, xs, h⟩)
    · cases r
      obtain ⟨h1, h2, _⟩ := isD_at I h
      exact ⟨h1, h2⟩
  | _ => exact ty.elim
section
variable {o e : Expr} {es : List Expr} {to : L2.TE} {t : L2.TA} {name : Str} {apos cpos : Pos} {T id : String} {r : V → List V → Hp → VK → Prop}
def tRc0 (K : PySem.W.Frag) (T : String) (r : V → List V → Hp → VK → Prop) (to : L2.TE) : L2.TE := fun σ H Q => to σ H fun x H1 => RcV K T x H1 ∧ r x [] H1 Q
def tRc (K : PySem.W.Frag) (T : String) (r : V → List V → Hp → VK → Prop) (to : L2.TE) (t : L2.TA) : L2.TE := fun σ H Q => to σ H fun x H1 => RcV K T x H1 ∧ t σ H1 fun xs H2 => r x xs H2 Q
theorem pe_rc0 (pa : PlainAttrs T) (slot : Slot T name id) (hty : typeOf (.builtin id) = pure (.type "method_descriptor")) (hm : MtR X id r) (ho : PE X o to)
    (hbase : attributeBase o name X.env (eval o X.env) = eval o X.env) (hline : (apos.endLine == cpos.line) = true) : PE X (.Call (.Attribute o name apos) [] [] cpos) (tRc0 X.K T r to) := by
  refine ⟨fun pins s σ H Q I h => ?_⟩
  refine wpAny_Call_method0_late hbase hline (thn (ho.run pins s σ H _ I h) fun v s1 ⟨x, H1, I1, r1, ty, q1⟩ => ?_)
  obtain ⟨h1, h2⟩ := rcV_is I1 r1 ty
  exact ⟨T, id, pa, slot, hty, h1, h2, Calls.callWith_builtin rfl (PySem.evalArgs_none (hm pins s1 σ H1 x [] v [] Q I1 r1 .nil q1))⟩
theorem pe_rc (pa : PlainAttrs T) (slot : Slot T name id) (hty : typeOf (.builtin id) = pure (.type "method_descriptor")) (hm : MtR X id r) (ho : PE X o to) (ha : PA X (e :: es) t)
    (hbase : attributeBase o name X.env (eval o X.env) = eval o X.env)
    (hfew : ((backTo cpos (starEach (e :: es) X.env)).all (fun x => !x.1) && (backToKw cpos (keywordEach [] X.env)).all (fun x => x.1.isSome)
      && decide ((e :: es).length + ([] : List Keyword).length + (if ([] : List Keyword).isEmpty then 0 else 1) < 30)) = true)
    (hline : (apos.endLine == cpos.line) = true) (hs : starEach (e :: es) X.env = (false, eval e X.env) :: starEach es X.env) (hplain : (backTo cpos (starEach es X.env)).any (·.1) = false) :
    PE X (.Call (.Attribute o name apos) (e :: es) [] cpos) (tRc X.K T r to t) := by
  refine ⟨fun pins s σ H Q I h => ?_⟩
  refine wpAny_Call_method_late hbase hfew hline rfl (thn (ho.run pins s σ H _ I h) fun v s1 ⟨x, H1, I1, r1, ty, q1⟩ => ?_)
  obtain ⟨h1, h2⟩ := rcV_is I1 r1 ty
  refine ⟨T, id, pa, slot, hty, h1, h2, ?_⟩
  have hA := ha.run cpos pins s1 σ H1 _ I1 q1
  rw [hs] at hA ⊢
  refine Calls.callWith_builtin (by show (false || (backTo cpos (starEach es X.env)).any (·.1)) = false; rw [hplain] <;> rfl) (Calls.evalArgs_plain ?_)
  exact thn hA fun us s2 ⟨vs, H2, I2, r2, q2⟩ => hm pins s2 σ H2 x vs v us Q I2 r1 r2 q2
end
/-- a method does what the evaluator's does -/
def OpM (X : Cx) (T id : String) (me : Me) (m : Bool) : Prop := ∃ r : V → List V → Hp → VK → Prop, MtR X id r ∧
  (∀ (β : Addr → Prop) (ρ : List Addr) (σd : DEnv) (S : Store) (σ : L2.St) (H : Hp) (x : D) (vx : V), Rel X.K β ρ σd S σ H → RV X.K β ρ H x vx → me.recv S x = true → RcV X.K T vx H) ∧
  ∀ (W : WS) (β : Addr → Prop) (ρ : List Addr) (σd : DEnv) (S : Store) (σ : L2.St) (H : Hp) (x : D) (vx : V) (xs : List D) (vs : List V) (Q : VK), Rel X.K β ρ σd S σ H → RV X.K β ρ H x vx → RVs X.K β ρ H xs vs →
    Pst X.K β ρ σd σ H W (meth me m S x xs) (ToV X.K β Q) → r vx vs H Q
theorem rc_list {K : PySem.W.Frag} {β : Addr → Prop} {ρ : List Addr} {σd : DEnv} {S : Store} {σ : L2.St} {H : Hp} {x : D} {vx : V} (r : Rel K β ρ σd S σ H) (rx : RV K β ρ H x vx) (h : (x.list? S).isSome = true) : RcV K "list" vx H := by
  obtain ⟨xs, e⟩ := Option.isSome_iff_exists.mp h
  obtain ⟨a, vs, rfl, h1, _⟩ := rx.list r e
  exact .inl ⟨rfl, vs, h1⟩
theorem rc_dict {K : PySem.W.Frag} {β : Addr → Prop} {ρ : List Addr} {σd : DEnv} {S : Store} {σ : L2.St} {H : Hp} {x : D} {vx : V} (r : Rel K β ρ σd S σ H) (rx : RV K β ρ H x vx) (h : (x.dict? S).isSome = true) : RcV K "dict" vx H := by
  obtain ⟨⟨t, kvs⟩, e⟩ := Option.isSome_iff_exists.mp h
  obtain ⟨a, rfl, h1⟩ := rx.dict r e
  exact .inr ⟨rfl, h1.isD⟩
/-! the dict's get -/
theorem mt_get1 (hu : X.A.units + 1 < cLine) : MtR X "dict.get" (fun x xs H Q => ∃ a k o, x = .ref a ∧ xs = [k] ∧ DGet H a k o ∧ Q (o.getD .non) H) := by
  intro pins s σ H x xs v us Q I rx rxs h
  obtain ⟨a, k, o, rfl, rfl, g, q⟩ := h
  cases rx
  obtain ⟨u, rfl, ru⟩ := vals1 rxs
  exact d_get1 hu I g ru fun w' s' I' rw' => ⟨_, H, I', rw', q⟩
theorem mt_get2 (hu : X.A.units + 1 < cLine) : MtR X "dict.get" (fun x xs H Q => ∃ a k d o, x = .ref a ∧ xs = [k, d] ∧ DGet H a k o ∧ Q (o.getD d) H) := by
  intro pins s σ H x xs v us Q I rx rxs h
  obtain ⟨a, k, d, o, rfl, rfl, g, q⟩ := h
  cases rx
  obtain ⟨u, u2, rfl, ru, ru2⟩ := vals2 rxs
  exact d_get2 hu I g ru ru2 fun w' s' I' rw' => ⟨_, H, I', rw', q⟩
theorem RVo.getD {K : PySem.W.Frag} {β : Addr → Prop} {ρ : List Addr} {H : Hp} {o : Option D} {o' : Option V} {d : D} {v : V} (h : RVo K β ρ H o o') (hd : RV K β ρ H d v) : RV K β ρ H (o.getD d) (o'.getD v) := by
  cases o <;> cases o' <;> first | exact hd | exact h | exact h.elim
theorem me_get1 (hu : X.A.units + 1 < cLine) (m : Bool) : OpM X "dict" "dict.get" .get1 m := by
  refine ⟨_, mt_get1 hu, fun β ρ σd S σ H x vx r rx h => rc_dict r rx h, fun W β ρ σd S σ H x vx xs vs Q r rx rv h => ?_⟩
  match xs, rv, h with
  | [k], rv, h =>
    obtain ⟨v, rfl, rk⟩ := rv.one_inv
    have h' : Pst X.K β ρ σd σ H W (match x.dict? S with
      | some (t, kvs) => okIf (k.isKey t) (R.ok ((dlook kvs k).getD .non) S)
      | none => .stuck) (ToV X.K β Q) := h
    clear h
    cases e : x.dict? S with
    | none => rw [e] at h'; exact h'.elim
    | some p =>
      obtain ⟨t, kvs⟩ := p
      rw [e] at h'
      obtain ⟨c, h'⟩ := Pst.okIf h'
      obtain ⟨a, rfl, hd⟩ := rx.dict r e
      obtain ⟨o, g, ro⟩ := hd.get rk c
      exact ⟨a, v, o, rfl, rfl, g, h'.val r (ro.getD .non)⟩
  | [], rv, h => exact h.elim
  | _ :: _ :: _, rv, h => exact h.elim
theorem me_get2 (hu : X.A.units + 1 < cLine) (m : Bool) : OpM X "dict" "dict.get" .get2 m := by
  refine ⟨_, mt_get2 hu, fun β ρ σd S σ H x vx r rx h => rc_dict r rx h, fun W β ρ σd S σ H x vx xs vs Q r rx rv h => ?_⟩
  match xs, rv, h with
  | [k, d], rv, h =>
    obtain ⟨v, u, rfl, rk, rd⟩ := rv.two_inv
    have h' : Pst X.K β ρ σd σ H W (match x.dict? S with
      | some (t, kvs) => okIf (k.isKey t) (R.ok ((dlook kvs k).getD d) S)
      | none => .stuck) (ToV X.K β Q) := h
    clear h
    cases e : x.dict? S with
    | none => rw [e] at h'; exact h'.elim
    | some p =>
      obtain ⟨t, kvs⟩ := p
      rw [e] at h'
      obtain ⟨c, h'⟩ := Pst.okIf h'
      obtain ⟨a, rfl, hd⟩ := rx.dict r e
      obtain ⟨o, g, ro⟩ := hd.get rk c
      exact ⟨a, v, u, o, rfl, rfl, g, h'.val r (ro.getD rd)⟩
  | [], rv, h => exact h.elim
  | [_], rv, h => exact h.elim
  | _ :: _ :: _ :: _, rv, h => exact h.elim
theorem me_append (m : Bool) : OpM X "list" "list.append" .append m := by
  refine ⟨_, mt_append, fun β ρ σd S σ H x vx r rx h => rc_list r rx h, fun W β ρ σd S σ H x vx xs vs Q r rx rv h => ?_⟩
  match xs, rv, h with
  | [d], rv, h =>
    obtain ⟨v, rfl, rd⟩ := rv.one_inv
    cases x with
    | ref i =>
      have h' : Pst X.K β ρ σd σ H W (match S[i]? with
        | some (.lst xs) => okIf (decide (xs.length < sizeLine)) (R.ok .non (S.set i (.lst (xs ++ [d]))))
        | _ => .stuck) (ToV X.K β Q) := h
      clear h
      cases eo : S[i]? with
      | none => rw [eo] at h'; exact h'.elim
      | some o =>
        rw [eo] at h'
        cases o with
        | lst ys =>
          obtain ⟨c, h'⟩ := Pst.okIf h'
          have c := of_decide_eq_true c
          obtain ⟨a, u, rfl, hi, ha, ⟨us, eu, z, ru⟩, hf⟩ := rx.open r eo (fun _ => by simp)
          subst eu
          have hl := ru.length
          exact ⟨a, us, v, rfl, rfl, ha, by omega, h' _ _ (Keep.write (List.mem_of_getElem? hi) hf) (r.write hi hf ⟨_, rfl, by rw [List.length_append, List.length_singleton]; omega, ru.append (.cons rd .nil)⟩) _ .non⟩
        | dct t kvs => exact h'.elim
        | lck o => exact h'.elim
    | _ => exact h.elim
  | [], rv, h => exact h.elim
  | _ :: _ :: _, rv, h => exact h.elim
theorem me_clear (m : Bool) : OpM X "list" "list.clear" .clear m := by
  refine ⟨_, mt_clear, fun β ρ σd S σ H x vx r rx h => rc_list r rx h, fun W β ρ σd S σ H x vx xs vs Q r rx rv h => ?_⟩
  match xs, rv, h with
  | [], rv, h =>
    have ev := rv.nil_inv
    cases x with
    | ref i =>
      have h' : Pst X.K β ρ σd σ H W (match S[i]? with
        | some (.lst _) => R.ok .non (S.set i (.lst []))
        | _ => .stuck) (ToV X.K β Q) := h
      clear h
      cases eo : S[i]? with
      | none => rw [eo] at h'; exact h'.elim
      | some o =>
        rw [eo] at h'
        cases o with
        | lst ys =>
          obtain ⟨a, u, rfl, hi, ha, ⟨us, eu, z, ru⟩, hf⟩ := rx.open r eo (fun _ => by simp)
          subst eu
          exact ⟨a, us, rfl, ev, ha, h' _ _ (Keep.write (List.mem_of_getElem? hi) hf) (r.write hi hf ⟨_, rfl, Nat.zero_le _, .nil⟩) _ .non⟩
        | dct t kvs => exact h'.elim
        | lck o => exact h'.elim
    | _ => exact h.elim
  | _ :: _, rv, h => exact h.elim
theorem last_rel {K : PySem.W.Frag} {β : Addr → Prop} {ρ : List Addr} {H : Hp} : ∀ {ds : List D} {vs : List V}, RVs K β ρ H ds vs → RVs K β ρ H ds.dropLast vs.dropLast := fun {ds vs} h => by
  rw [List.dropLast_eq_take, List.dropLast_eq_take, h.length]
  exact h.take _
theorem me_pop0 (m : Bool) : OpM X "list" "list.pop" .pop0 m := by
  refine ⟨_, mt_pop, fun β ρ σd S σ H x vx r rx h => rc_list r rx h, fun W β ρ σd S σ H x vx xs vs Q r rx rv h => ?_⟩
  match xs, rv, h with
  | [], rv, h =>
    have ev := rv.nil_inv
    cases x with
    | ref i =>
      have h' : Pst X.K β ρ σd σ H W (match S[i]? with
        | some (.lst xs) => match xs[xs.length - 1]? with
          | some x => R.ok x (S.set i (.lst xs.dropLast))
          | none => .stuck
        | _ => .stuck) (ToV X.K β Q) := h
      clear h
      cases eo : S[i]? with
      | none => rw [eo] at h'; exact h'.elim
      | some o =>
        rw [eo] at h'
        cases o with
        | lst ys =>
          simp only at h'
          obtain ⟨a, u, rfl, hi, ha, ⟨us, eu, z, ru⟩, hf⟩ := rx.open r eo (fun _ => by simp)
          subst eu
          cases e2 : ys[ys.length - 1]? with
          | none => rw [e2] at h'; exact h'.elim
          | some d =>
            rw [e2] at h'
            obtain ⟨v, e3, rd⟩ := ru.get e2
            rw [ru.length] at e3
            have k : Keep ρ H ρ (upd H a (.lst us.dropLast)) := Keep.write (List.mem_of_getElem? hi) hf
            exact ⟨a, us, v, rfl, ev, ha, e3, h' _ _ k (r.write hi hf ⟨_, rfl, by rw [List.length_dropLast]; omega, last_rel ru⟩) _ (rd.keep k)⟩
        | dct t kvs => exact h'.elim
        | lck o => exact h'.elim
    | _ => exact h.elim
  | _ :: _, rv, h => exact h.elim
end
end DD

namespace DD
open PySem PySem.Spec PyProof.Rows L2

def notStar : Expr → Bool
  | .Starred _ _ => false | _ => true
def notSlice : Expr → Bool
  | .Slice _ _ _ _ => false | _ => true
def notBare : Expr → Bool
  | .Call (.Name _ _) [] [] _ => false | _ => true
def plainTest : Expr → Bool
  | .UnaryOp .Not _ _ => false | .BoolOp _ _ _ => false | .IfExp _ _ _ _ => false | .Compare _ _ _ _ => false | _ => true
def notSet : Expr → Bool
  | .Set _ _ _ => false | _ => true
theorem starEach_ns {e : Expr} (h : notStar e = true) (es : List Expr) (env : PySem.Env) : starEach (e :: es) env = (false, eval e env) :: starEach es env := by
  cases e <;> first | rfl | cases h
theorem subscripted_ns {b : Expr} (h : notSlice b = true) (o i : Value) : subscripted b false o i = operate [o, i] (getItem o i) := by
  cases b <;> first | rfl | cases h
theorem attributeBase_nb {o : Expr} (h : notBare o = true) (a : Str) (env : PySem.Env) (w : Sem Value) : attributeBase o a env w = w := by
  cases o with
  | Call f args kws pos =>
    cases f with
    | Name x p =>
      cases args with
      | nil =>
        cases kws with
        | nil => cases h
        | cons k ks => rfl
      | cons a as => rfl
    | _ => rfl
  | _ => rfl
theorem isTrue_pl {e : Expr} (h : plainTest e = true) (env : PySem.Env) (whole : Sem Value) : isTrue e env whole = (do let v ← whole; standAt e.pos; holding [v] (truthy v)) := by
  cases e with
  | UnaryOp op x p =>
    cases op with
    | Not => cases h
    | _ => rfl
  | BoolOp _ _ _ => cases h
  | IfExp _ _ _ _ => cases h
  | Compare _ _ _ _ => cases h
  | _ => rfl
theorem folded_ns {e : Expr} (h : notSet e = true) (env : PySem.Env) (x : Value) : foldedSetIterable e env x = pure x := by
  cases e <;> first | rfl | cases h
theorem starEach_any {es : List Expr} (h : es.all notStar = true) (pos : Pos) (env : PySem.Env) : (backTo pos (starEach es env)).any (·.1) = false ∧ (backTo pos (starEach es env)).all (fun x => !x.1) = true := by
  induction es with
  | nil => exact ⟨rfl, rfl⟩
  | cons e es ih =>
    rw [List.all_cons, Bool.and_eq_true] at h
    obtain ⟨h1, h2⟩ := ih h.2
    rw [starEach_ns h.1]
    unfold backTo at h1 h2 ⊢
    rw [List.map_cons, List.any_cons, List.all_cons]
    exact ⟨by rw [h1]; rfl, by rw [h2]; rfl⟩

/-! ### the check -/
def visB (sc : Scope) (x : Str) : Bool := match sc.names.lookup x with
  | some .local => true | some .cell => true | some .free => true | _ => false
def locB (sc : Scope) (x : Str) : Bool := match sc.names.lookup x with
  | some .local => true | some .cell => true | _ => false
def glB (sc : Scope) (x : Str) : Bool := match sc.names.lookup x with
  | some .globalImplicit => true | _ => false
theorem visB_vis {sc : Scope} {x : Str} (h : visB sc x = true) : Vis sc x := by
  unfold visB at h
  unfold Vis
  split at h <;> simp_all
theorem locB_loc {sc : Scope} {x : Str} (h : locB sc x = true) : L2.Loc sc x := by
  unfold locB at h
  unfold L2.Loc
  split at h <;> simp_all
def glob_of {sc : Scope} {x : Str} (h : glB sc x = true) : sc.names.lookup x = some .globalImplicit := by
  unfold glB at h
  split at h <;> simp_all
def Pr.name : Pr → Str
  | .len => "len" | .isinst _ => "isinstance" | .tuple => "tuple" | .list => "list" | .sorted => "sorted" | .str => "str" | .int => "int" | .min2 => "min" | .max2 => "max"
  | .minL => "min" | .maxL => "max" | .sumL => "sum" | .abs => "abs" | .dict => "dict"
/-- the built-in as a value of the machine -/
def Pr.val : Pr → Value
  | .len => .builtin "len" | .isinst _ => .builtin "isinstance" | .tuple => .type "tuple" | .list => .type "list" | .sorted => .builtin "sorted" | .str => .type "str" | .int => .type "int" | .min2 => .builtin "min" | .max2 => .builtin "max"
  | .minL => .builtin "min" | .maxL => .builtin "max" | .sumL => .builtin "sum" | .abs => .builtin "abs" | .dict => .type "dict"
/-- the arguments that are served -/
def Pr.ok : Pr → Bool
  | .sorted => false | .minL => false | .maxL => false | .dict => false | .isinst _ => false | _ => true
def Me.name : Me → Str
  | .get1 => "get" | .get2 => "get" | .setdef => "setdefault" | .append => "append" | .clear => "clear" | .extend => "extend" | .pop0 => "pop" | .popAt => "pop" | .popD => "pop" | .popD2 => "pop"
def Me.ok : Me → Bool
  | .get1 => true | .get2 => true | .append => true | .clear => true | .pop0 => true | _ => false
/-- may stand as a test -/
def tst : E → Bool
  | .ite _ _ _ => false
  | .not a => tst a
  | .and a b => tst a && tst b
  | .or a b => tst a && tst b
  | _ => true
def tgIn (own : List Nat) : Tg → Bool
  | .nm i => own.contains i
  | .tup us => tgIn own us
  | .nil => true
  | .cons t ts => tgIn own t && tgIn own ts
/-- a value (not what range and its like give) -/
def vI : E → Bool
  | .iter _ _ => false | _ => true
def chkO (lo : E) (f : Expr → Bool) (x : Option Expr) : Bool := match lo with
  | .no => x.isNone
  | _ => match x with | some y => f y | none => false
section
variable (bn : List Str) (nm : Nat → Str) (fs : List Nat) (N : List Str)
mutual
def chkT (sc : Scope) : Tg → Expr → Bool
  | .nm i, e => match e with | .Name x _ => decide (N[i]? = some x) && locB sc x | _ => false
  | .tup ts, e => match e with | .Tuple es _ _ => chkTs sc ts es | _ => false
  | .nil, _ => false
  | .cons _ _, _ => false
def chkTs (sc : Scope) : Tg → List Expr → Bool
  | .nil, es => match es with | [] => true | _ => false
  | .cons t ts, es => match es with | e :: r => notStar e && chkT sc t e && chkTs sc ts r | _ => false
  | .nm _, _ => false
  | .tup _, _ => false
end
mutual
def chkE : E → Scope → Expr → Bool
  | .var i, sc, e => match e with | .Name x _ => decide (N[i]? = some x) && visB sc x && !(x == ("__debug__" : Str)) && !(x == ("__classdict__" : Str)) | _ => false
  | .int i, _, e => match e with | .Constant (.int j) _ _ => decide (i = j) | _ => false
  | .bl b, _, e => match e with | .Constant (.bool j) _ _ => b == j | _ => false
  | .str x, _, e => match e with | .Constant (.str y) _ _ => decide (x = y) | _ => false
  | .non, _, e => match e with | .Constant .none _ _ => true | _ => false
  | .glob _ _, _, _ => false
  | .bin op _ a b, sc, e => match e with | .BinOp l o r _ => decide (o = op.op) && vI a && chkE a sc l && vI b && chkE b sc r | _ => false
  | .neg a, sc, e => match e with | .UnaryOp .USub x _ => vI a && chkE a sc x | _ => false
  | .not a, sc, e => match e with | .UnaryOp .Not x _ => vI a && chkE a sc x | _ => false
  | .cmp op a b, sc, e => match e with | .Compare l [o] [r] _ => decide (o = op.op) && !behindInMarks o r && vI a && chkE a sc l && vI b && chkE b sc r | _ => false
  | .chain o1 o2 a b c, sc, e => match e with | .Compare l [p, q] [r, t] _ => decide (p = o1.op) && decide (q = o2.op) && !behindInMarks q t && vI a && chkE a sc l && vI b && chkE b sc r && vI c && chkE c sc t | _ => false
  | .and a b, sc, e => match e with
    | .BoolOp .And [x, y] _ => vI a && chkE a sc x && vI b && chkE b sc y
    | .BoolOp .And (x :: y :: z :: r) p => vI a && chkE a sc x && vI b && chkE b sc (.BoolOp .And (y :: z :: r) p)
    | _ => false
  | .or a b, sc, e => match e with
    | .BoolOp .Or [x, y] _ => vI a && chkE a sc x && vI b && chkE b sc y
    | .BoolOp .Or (x :: y :: z :: r) p => vI a && chkE a sc x && vI b && chkE b sc (.BoolOp .Or (y :: z :: r) p)
    | _ => false
  | .ite c a b, sc, e => match e with | .IfExp t x y _ => tst c && vI c && chkE c sc t && vI a && chkE a sc x && vI b && chkE b sc y | _ => false
  | .tup es, sc, e => match e with | .Tuple xs _ _ => chkEs es sc xs | _ => false
  | .lst _ es, sc, e => match e with | .List xs _ => chkEs es sc xs | _ => false
  | .dict _ _ kvs, sc, e => match e with | .Dict [] [] _ => (match kvs with | .nil => true | _ => false) | _ => false
  | .idx a i, sc, e => match e with | .Subscript x y _ => notSlice y && vI a && chkE a sc x && vI i && chkE i sc y | _ => false
  | .slice _ a lo hi, sc, e => match e with | .Subscript x (.Slice l h none _) _ => vI a && chkE a sc x && chkO lo (fun y => vI lo && chkE lo sc y) l && chkO hi (fun y => vI hi && chkE hi sc y) h | _ => false
  | .back _ _, _, _ => false
  | .comp _ elt tg it ifs own, sc, e => match e with
    | .ListComp e' [⟨tg', it', ifs', n⟩] scope _ => decide (n = 0) && own.all (fun i => decide (i < N.length)) && blkC N sc scope (own.map fun i => (N.getD i "", i)) && chkT N scope tg tg' && notSet it' && chkE it sc it' && chkC ifs scope ifs' && vI elt && chkE elt scope e' && tgIn own tg
    | _ => false
  | .call f _ es, sc, e => match e with | .Call (.Name x _) xs [] _ => fs.contains f && decide (x = nm f) && glB sc x && !(x == ("__debug__" : Str)) && chkEs es sc xs | _ => false
  | .callS f es, sc, e => match e with | .Call (.Name x _) xs [] _ => fs.contains f && decide (x = nm f) && glB sc x && !(x == ("__debug__" : Str)) && chkEs es sc xs | _ => false
  | .prim p _ es, sc, e => match e with
    | .Call (.Name x _) xs [] _ => decide (x = p.name) && glB sc x && bn.contains x && (match p with
      | .isinst T => match es, xs with
        | .cons a .nil, [y, .Name t _] => notStar y && vI a && chkE a sc y && decide (t = Str.ofString T.name) && glB sc t && bn.contains t
        | _, _ => false
      | p => p.ok && chkEs es sc xs && !xs.isEmpty)
    | _ => false
  | .meth me _ o es, sc, e => match e with
    | .Call (.Attribute x a apos) xs [] cpos => me.ok && decide (a = me.name) && notBare x && (apos.endLine == cpos.line) && decide (xs.length < 29) && vI o && chkE o sc x && chkEs es sc xs
    | _ => false
  | .iter k es, sc, e => match e with
    | .Call (.Name x _) xs [] _ => (match k with | .range1 => decide (x = ("range" : Str)) && decide (xs.length = 1) | .range2 => decide (x = ("range" : Str)) && decide (xs.length = 2) | _ => false) && glB sc x && bn.contains x && chkEs es sc xs
    | _ => false
  | .no, _, _ => false
  | .nil, _, _ => false
  | .cons _ _, _, _ => false
def chkEs : E → Scope → List Expr → Bool
  | .nil, _, xs => match xs with | [] => true | _ => false
  | .cons e es, sc, xs => match xs with | x :: r => notStar x && vI e && chkE e sc x && chkEs es sc r | _ => false
  | _, _, _ => false
def chkC : E → Scope → List Expr → Bool
  | .nil, _, xs => xs.isEmpty
  | .cons e es, sc, xs => match es, xs with | .nil, [x] => tst e && vI e && chkE e sc x | _, _ => false
  | _, _, _ => false
end
end
end DD

namespace DD
open PySem PySem.Spec PyProof.Rows L2

/-! ### data moved from one store to another -/
section
variable {K : PySem.W.Frag} {β β' : Addr → Prop} {ρ ρ' : List Addr} {H : Hp}
theorem ImL.weak {b b' : Addr → Prop} {a : Addr} {vs : List V} (h : ImL K b H a vs) (w : ∀ x, b' x → b x) : ImL K b' H a vs := by
  obtain ⟨z, ⟨h1, h2⟩ | h1⟩ := h
  · exact ⟨z, .inl ⟨h1, fun q => h2 (w _ q)⟩⟩
  · exact ⟨z, .inr h1⟩
mutual
/-- values without refs -/
theorem RV.move (w : ∀ x, Bad β' ρ' x → Bad β ρ x) : ∀ {d : D} {v : V}, d.noRef = true → RV K β ρ H d v → RV K β' ρ' H d v
  | _, _, _, .non => .non
  | _, _, _, .bl b => .bl b
  | _, _, _, .int i => .int i
  | _, _, _, .str x => .str x
  | _, _, n, .tup h z r => .tup h z (RVs.move w (by rw [D.noRef] at n; exact n) r)
  | _, _, n, .lst h r => .lst (h.weak w) (RVs.move w (by rw [D.noRef] at n; exact n) r)
  | _, _, n, .dT h b r => .dT h (fun q => b (w _ q)) (RKT.move w (by rw [D.noRef] at n; exact n) r)
  | _, _, n, .dK h b r => .dK h (fun q => b (w _ q)) (RKK.move w (by rw [D.noRef] at n; exact n) r)
  | _, _, n, .ref h => by rw [D.noRef] at n; cases n
theorem RVs.move (w : ∀ x, Bad β' ρ' x → Bad β ρ x) : ∀ {ds : List D} {vs : List V}, D.noRefs ds = true → RVs K β ρ H ds vs → RVs K β' ρ' H ds vs
  | _, _, _, .nil => .nil
  | _, _, n, .cons h r => by
    rw [D.noRefs, Bool.and_eq_true] at n
    exact .cons (RV.move w n.1 h) (RVs.move w n.2 r)
theorem RKT.move (w : ∀ x, Bad β' ρ' x → Bad β ρ x) : ∀ {ds : List (D × D)} {vs : List (List Key × V)}, D.noRefKs ds = true → RKT K β ρ H ds vs → RKT K β' ρ' H ds vs
  | _, _, _, .nil => .nil
  | _, _, n, .cons z h r => by
    rw [D.noRefKs, Bool.and_eq_true, Bool.and_eq_true] at n
    exact .cons z (RV.move w n.1.2 h) (RKT.move w n.2 r)
theorem RKK.move (w : ∀ x, Bad β' ρ' x → Bad β ρ x) : ∀ {ds : List (D × D)} {vs : List (Key × V)}, D.noRefKs ds = true → RKK K β ρ H ds vs → RKK K β' ρ' H ds vs
  | _, _, _, .nil => .nil
  | _, _, n, .cons h r => by
    rw [D.noRefKs, Bool.and_eq_true, Bool.and_eq_true] at n
    exact .cons (RV.move w n.1.2 h) (RKK.move w n.2 r)
end
mutual
/-- values without lists, dicts, refs -/
theorem RV.flatMove : ∀ {d : D} {v : V}, d.flat = true → RV K β ρ H d v → RV K β' ρ' H d v
  | _, _, _, .non => .non
  | _, _, _, .bl b => .bl b
  | _, _, _, .int i => .int i
  | _, _, _, .str x => .str x
  | _, _, n, .tup h z r => .tup h z (RVs.flatMove (by rw [D.flat] at n; exact n) r)
  | _, _, n, .lst h r => by rw [D.flat] at n; cases n
  | _, _, n, .dT h b r => by rw [D.flat] at n; cases n
  | _, _, n, .dK h b r => by rw [D.flat] at n; cases n
  | _, _, n, .ref h => by rw [D.flat] at n; cases n
theorem RVs.flatMove : ∀ {ds : List D} {vs : List V}, D.flats ds = true → RVs K β ρ H ds vs → RVs K β' ρ' H ds vs
  | _, _, _, .nil => .nil
  | _, _, n, .cons h r => by
    rw [D.flats, Bool.and_eq_true] at n
    exact .cons (RV.flatMove n.1 h) (RVs.flatMove n.2 r)
end
theorem RKT.flatMove : ∀ {ds : List (D × D)} {vs : List (List Key × V)}, D.flatKs ds = true → RKT K β ρ H ds vs → RKT K β' ρ' H ds vs
  | _, _, _, .nil => .nil
  | _, _, n, .cons z h r => by
    rw [D.flatKs, Bool.and_eq_true, Bool.and_eq_true] at n
    exact .cons z (RV.flatMove n.1.2 h) (RKT.flatMove n.2 r)
theorem RKK.flatMove : ∀ {ds : List (D × D)} {vs : List (Key × V)}, D.flatKs ds = true → RKK K β ρ H ds vs → RKK K β' ρ' H ds vs
  | _, _, _, .nil => .nil
  | _, _, n, .cons h r => by
    rw [D.flatKs, Bool.and_eq_true, Bool.and_eq_true] at n
    exact .cons (RV.flatMove n.1.2 h) (RKK.flatMove n.2 r)
/-- where nothing is forbidden -/
abbrev Free : Addr → Prop := fun _ => False
variable {γ : Addr → Prop}
mutual
theorem rv_sub {f : Nat → Option D} (hw : ∀ x, Bad γ [] x → Bad β ρ x) (hf : ∀ i d' a, f i = some d' → ρ[i]? = some a → RV K γ [] H d' (.ref a)) :
    ∀ (d : D) (v : V) (d' : D), RV K β ρ H d v → D.sub f d = some d' → RV K γ [] H d' v
  | .non, v, d', h, e => by rw [h.non_inv]; cases e; exact .non
  | .bl b, v, d', h, e => by rw [h.bl_inv]; cases e; exact .bl b
  | .int i, v, d', h, e => by rw [h.int_inv]; cases e; exact .int i
  | .str x, v, d', h, e => by rw [h.str_inv]; cases e; exact .str x
  | .tup xs, v, d', h, e => by
    obtain ⟨a, vs, rfl, h1, h3, h4⟩ := h.tup_inv
    rw [D.sub] at e
    obtain ⟨ys, e1, e2⟩ := Option.map_eq_some_iff.mp e
    subst e2
    exact .tup h1 h3 (rv_subs hw hf xs vs ys h4 e1)
  | .lst xs, v, d', h, e => by
    cases h with
    | lst hl h4 =>
      rw [D.sub] at e
      obtain ⟨ys, e1, e2⟩ := Option.map_eq_some_iff.mp e
      subst e2
      exact .lst (hl.weak hw) (rv_subs hw hf xs _ ys h4 e1)
  | .dct t kvs, v, d', h, e => by
    rw [D.sub] at e
    obtain ⟨ys, e1, e2⟩ := Option.map_eq_some_iff.mp e
    subst e2
    cases h with
    | dT h1 h2 h3 => exact .dT h1 (fun q => h2 (hw _ q)) (rkt_subs hw hf kvs _ ys h3 e1)
    | dK h1 h2 h3 => exact .dK h1 (fun q => h2 (hw _ q)) (rkk_subs hw hf kvs _ ys h3 e1)
  | .ref i, v, d', h, e => by
    cases h with
    | ref hi =>
      rw [D.sub] at e
      exact hf i d' _ e hi
theorem rv_subs {f : Nat → Option D} (hw : ∀ x, Bad γ [] x → Bad β ρ x) (hf : ∀ i d' a, f i = some d' → ρ[i]? = some a → RV K γ [] H d' (.ref a)) :
    ∀ (ds : List D) (vs : List V) (ds' : List D), RVs K β ρ H ds vs → D.subs f ds = some ds' → RVs K γ [] H ds' vs
  | [], vs, ds', h, e => by rw [h.nil_inv]; cases e; exact .nil
  | d :: ds, vs, ds', h, e => by
    obtain ⟨v, us, rfl, h1, h2⟩ := h.cons_inv
    rw [D.subs] at e
    obtain ⟨y, e1, e2⟩ := Option.bind_eq_some_iff.mp e
    obtain ⟨ys, e3, e4⟩ := Option.map_eq_some_iff.mp e2
    subst e4
    exact .cons (rv_sub hw hf d v y h1 e1) (rv_subs hw hf ds us ys h2 e3)
theorem rkt_subs {f : Nat → Option D} (hw : ∀ x, Bad γ [] x → Bad β ρ x) (hf : ∀ i d' a, f i = some d' → ρ[i]? = some a → RV K γ [] H d' (.ref a)) :
    ∀ (ds : List (D × D)) (vs : List (List Key × V)) (ds' : List (D × D)), RKT K β ρ H ds vs → D.subks f ds = some ds' → RKT K γ [] H ds' vs
  | [], vs, ds', h, e => by cases h; cases e; exact .nil
  | (k, d) :: ds, vs, ds', h, e => by
    rw [D.subks] at e
    obtain ⟨k', e1, e⟩ := Option.bind_eq_some_iff.mp e
    obtain ⟨d', e2, e⟩ := Option.bind_eq_some_iff.mp e
    obtain ⟨ys, e3, e4⟩ := Option.map_eq_some_iff.mp e
    subst e4
    cases h with
    | @cons ks _ v _ hk zk h1 h2 =>
      have ek : k' = .tup (ks.map keyD) := by
        have : ∀ ks : List Key, D.subs f (ks.map keyD) = some (ks.map keyD) := fun ks => by
          induction ks with
          | nil => rfl
          | cons a as ih =>
            rw [List.map_cons, D.subs, ih]
            cases a <;> rfl
        rw [D.sub, this ks] at e1
        exact (Option.some.inj e1).symm
      subst ek
      exact .cons zk (rv_sub hw hf d v d' h1 e2) (rkt_subs hw hf ds hk ys h2 e3)
theorem rkk_subs {f : Nat → Option D} (hw : ∀ x, Bad γ [] x → Bad β ρ x) (hf : ∀ i d' a, f i = some d' → ρ[i]? = some a → RV K γ [] H d' (.ref a)) :
    ∀ (ds : List (D × D)) (vs : List (Key × V)) (ds' : List (D × D)), RKK K β ρ H ds vs → D.subks f ds = some ds' → RKK K γ [] H ds' vs
  | [], vs, ds', h, e => by cases h; cases e; exact .nil
  | (k, d) :: ds, vs, ds', h, e => by
    rw [D.subks] at e
    obtain ⟨k', e1, e⟩ := Option.bind_eq_some_iff.mp e
    obtain ⟨d', e2, e⟩ := Option.bind_eq_some_iff.mp e
    obtain ⟨ys, e3, e4⟩ := Option.map_eq_some_iff.mp e
    subst e4
    cases h with
    | @cons ks _ v _ hk h1 h2 =>
      have ek : k' = keyD ks := by
        cases ks <;> exact (Option.some.inj e1).symm
      subst ek
      exact .cons (rv_sub hw hf d v d' h1 e2) (rkk_subs hw hf ds hk ys h2 e3)
end
theorem bad_of (hγ : ∀ x, γ x → β x) : ∀ x, Bad γ [] x → Bad β ρ x := fun x q => q.elim (fun z => .inl (hγ x z)) fun z => nomatch z
theorem bad_ofX {x0 : Nat} {a0 : Addr} (ha0 : ρ[x0]? = some a0) (hγ : ∀ x, γ x → β x ∨ x = a0) : ∀ x, Bad γ [] x → Bad β ρ x := fun x q => q.elim (fun z => (hγ x z).elim .inl fun y => .inr (by rw [y]; exact List.mem_of_getElem? ha0)) fun z => nomatch z
theorem rv_rdN (hγ : ∀ x, γ x → β x) {σd : DEnv} {σ : L2.St} {S : Store} (r : Rel K β ρ σd S σ H) : ∀ (n i : Nat) (d' : D) (a : Addr), rdN n S i = some d' → ρ[i]? = some a → RV K γ [] H d' (.ref a)
  | 0, i, d', a, e, _ => by cases e
  | n + 1, i, d', a, e, hi => by
    rw [rdN] at e
    cases q : S[i]?.map Ob.inner with
    | none => rw [q] at e; cases e
    | some o =>
      rw [q] at e
      obtain ⟨u, hr, hu⟩ := r.rd hi q
      cases o with
      | lst xs =>
        obtain ⟨ys, e1, e2⟩ := Option.map_eq_some_iff.mp e
        subst e2
        obtain ⟨vs, eu, z, rv⟩ := hu
        subst eu
        exact .lst ⟨z, .inl ⟨hr, fun q => q.elim (fun z => (r.bad a (hγ a z)).2 (List.mem_of_getElem? hi)) fun z => nomatch z⟩⟩ (rv_subs (bad_of hγ) (rv_rdN hγ r n) xs vs ys rv e1)
      | dct t kvs =>
        obtain ⟨ys, e1, e2⟩ := Option.map_eq_some_iff.mp e
        subst e2
        cases t with
        | true =>
          obtain ⟨hk, eu, rk⟩ := hu
          subst eu
          exact .dT hr (fun q => q.elim (fun z => (r.bad a (hγ a z)).2 (List.mem_of_getElem? hi)) fun z => nomatch z) (rkt_subs (bad_of hγ) (rv_rdN hγ r n) kvs hk ys rk e1)
        | false =>
          obtain ⟨hk, eu, rk⟩ := hu
          subst eu
          exact .dK hr (fun q => q.elim (fun z => (r.bad a (hγ a z)).2 (List.mem_of_getElem? hi)) fun z => nomatch z) (rkk_subs (bad_of hγ) (rv_rdN hγ r n) kvs hk ys rk e1)
      | lck o => cases e
theorem rv_rdX {x0 : Nat} {a0 : Addr} (ha0 : ρ[x0]? = some a0) (hγ : ∀ x, γ x → β x ∨ x = a0) {σd : DEnv} {σ : L2.St} {S : Store} (r : Rel K β ρ σd S σ H) : ∀ (n i : Nat) (d' : D) (a : Addr), rdX x0 n S i = some d' → ρ[i]? = some a → RV K γ [] H d' (.ref a)
  | 0, i, d', a, e, _ => by cases e
  | n + 1, i, d', a, e, hi => by
    rw [rdX] at e
    split at e
    · cases e
    rename_i hne
    have hna : a ≠ a0 := fun z => hne (by
      subst z
      obtain ⟨l1, e1⟩ := List.getElem?_eq_some_iff.mp hi
      obtain ⟨l2, e2⟩ := List.getElem?_eq_some_iff.mp ha0
      exact (List.getElem_inj r.nd).mp (e1.trans e2.symm))
    cases q : S[i]?.map Ob.inner with
    | none => rw [q] at e; cases e
    | some o =>
      rw [q] at e
      obtain ⟨u, hr, hu⟩ := r.rd hi q
      cases o with
      | lst xs =>
        obtain ⟨ys, e1, e2⟩ := Option.map_eq_some_iff.mp e
        subst e2
        obtain ⟨vs, eu, z, rv⟩ := hu
        subst eu
        exact .lst ⟨z, .inl ⟨hr, fun q => q.elim (fun z => (hγ a z).elim (fun y => (r.bad a y).2 (List.mem_of_getElem? hi)) hna) fun z => nomatch z⟩⟩ (rv_subs (bad_ofX ha0 hγ) (rv_rdX ha0 hγ r n) xs vs ys rv e1)
      | dct t kvs =>
        obtain ⟨ys, e1, e2⟩ := Option.map_eq_some_iff.mp e
        subst e2
        cases t with
        | true =>
          obtain ⟨hk, eu, rk⟩ := hu
          subst eu
          exact .dT hr (fun q => q.elim (fun z => (hγ a z).elim (fun y => (r.bad a y).2 (List.mem_of_getElem? hi)) hna) fun z => nomatch z) (rkt_subs (bad_ofX ha0 hγ) (rv_rdX ha0 hγ r n) kvs hk ys rk e1)
        | false =>
          obtain ⟨hk, eu, rk⟩ := hu
          subst eu
          exact .dK hr (fun q => q.elim (fun z => (hγ a z).elim (fun y => (r.bad a y).2 (List.mem_of_getElem? hi)) hna) fun z => nomatch z) (rkk_subs (bad_ofX ha0 hγ) (rv_rdX ha0 hγ r n) kvs hk ys rk e1)
      | lck o => cases e
mutual
theorem sub_noRef {f : Nat → Option D} : ∀ d : D, d.noRef = true → D.sub f d = some d
  | .non, _ => rfl
  | .bl b, _ => rfl
  | .int i, _ => rfl
  | .str x, _ => rfl
  | .tup xs, h => by rw [D.sub, subs_noRef xs (by rw [D.noRef] at h; exact h)]; rfl
  | .lst xs, h => by rw [D.sub, subs_noRef xs (by rw [D.noRef] at h; exact h)]; rfl
  | .dct t kvs, h => by rw [D.sub, subks_noRef kvs (by rw [D.noRef] at h; exact h)]; rfl
  | .ref i, h => by rw [D.noRef] at h; cases h
theorem subs_noRef {f : Nat → Option D} : ∀ ds : List D, D.noRefs ds = true → D.subs f ds = some ds
  | [], _ => rfl
  | d :: ds, h => by
    rw [D.noRefs, Bool.and_eq_true] at h
    rw [D.subs, sub_noRef d h.1, subs_noRef ds h.2]
    rfl
theorem subks_noRef {f : Nat → Option D} : ∀ ds : List (D × D), D.noRefKs ds = true → D.subks f ds = some ds
  | [], _ => rfl
  | (k, d) :: ds, h => by
    rw [D.noRefKs, Bool.and_eq_true, Bool.and_eq_true] at h
    rw [D.subks, sub_noRef k h.1.1, sub_noRef d h.1.2, subks_noRef ds h.2]
    rfl
end
end

section
variable {K : PySem.W.Frag} {β : Addr → Prop} {H : Hp}
mutual
theorem noRef_of : ∀ {d : D} {v : V}, RV K β [] H d v → d.noRef = true
  | _, _, .non => rfl
  | _, _, .bl b => rfl
  | _, _, .int i => rfl
  | _, _, .str x => rfl
  | _, _, .tup h z r => by rw [D.noRef]; exact noRefs_of r
  | _, _, .lst h r => by rw [D.noRef]; exact noRefs_of r
  | _, _, .dT h b r => by rw [D.noRef]; exact noRefT_of r
  | _, _, .dK h b r => by rw [D.noRef]; exact noRefK_of r
  | _, _, .ref h => by simp at h
theorem noRefs_of : ∀ {ds : List D} {vs : List V}, RVs K β [] H ds vs → D.noRefs ds = true
  | _, _, .nil => rfl
  | _, _, .cons h r => by rw [D.noRefs, noRef_of h, noRefs_of r]; rfl
theorem noRefT_of : ∀ {ds : List (D × D)} {vs : List (List Key × V)}, RKT K β [] H ds vs → D.noRefKs ds = true
  | _, _, .nil => rfl
  | _, _, .cons (k := k) _ h r => by
    have e : ∀ ks : List Key, D.noRefs (ks.map keyD) = true := fun ks => by
      induction ks with
      | nil => rfl
      | cons a as ih => rw [List.map_cons, D.noRefs, ih]; cases a <;> rfl
    rw [D.noRefKs, noRef_of h, noRefT_of r, D.noRef, e k]
    rfl
theorem noRefK_of : ∀ {ds : List (D × D)} {vs : List (Key × V)}, RKK K β [] H ds vs → D.noRefKs ds = true
  | _, _, .nil => rfl
  | _, _, .cons (k := k) h r => by
    rw [D.noRefKs, noRef_of h, noRefK_of r]
    cases k <;> rfl
end
end
/-! ### promises -/
section
variable (K : PySem.W.Frag) (xc : Str → Addr)
/-- a call in a store of its own -/
def spP (g : List D → Res) : Sp := fun vs H Q E => ∃ (β : Addr → Prop) (args : List D), RVs K β [] H args vs ∧ (∀ a, β a → H a ≠ none) ∧ match g args with
  | .val d => ∀ H' v, Same H H' → RV K β [] H' d v → Q v H'
  | .new o => ∀ H' a u, Same H H' → H a = none → H' a = some u → RU K (fun b => β b ∨ b = a) [] H' u o → Q (.ref a) H'
  | .exc c => ∀ H', Same H H' → E (.ref (xc c)) none H'
  | .stuck => False
/-- a call in the caller's store -/
def spS (g : List D → Store → R D) : Sp := fun vs H Q E => ∃ (β : Addr → Prop) (ρ : List Addr) (args : List D) (S : Store), Rel K β ρ [] S [] H ∧ RVs K β ρ H args vs ∧ match g args S with
  | .ok d S' => ∀ ρ' H' v, Keep ρ H ρ' H' → Rel K β ρ' [] S' [] H' → RV K β ρ' H' d v → Q v H'
  | .exc c S' => ∀ ρ' H', Keep ρ H ρ' H' → Rel K β ρ' [] S' [] H' → E (.ref (xc c)) none H'
  | .stuck => False
def spF (n : Nat) (cx : Cxt) (f : Nat) : Sp := fun vs H Q E => vs.length = n ∧ (spP K xc (cx.call f) vs H Q E ∨ spS K xc (cx.callS f) vs H Q E)
end
/-- the wish about exceptions -/
def wsOf (xc : Str → Addr) (W : WX) : WS := fun c σ H => W (.ref (xc c)) none σ H
/-- the function x of the module does what the evaluator's f does, to the level k -/
def FnTh (P : Program) (w : World) (K : PySem.W.Frag) (mg : Str → Option Value) (base : Heap) (xc : Str → Addr) (cx : Cxt) (k : Nat) (x : Str) (f : Nat) : Prop :=
  ∃ (fa : Addr) (fd : FuncData) (ps : List Str), mg x = some (.ref fa) ∧ PySem.W.keepIn K (.ref fa) = true ∧ Binds K fd ps [] ∧ FnOk P w K mg base (L2.CX P w) k fa fd ps (spF K xc ps.length cx f) ∧
    ∀ args : List D, args.length ≠ ps.length → cx.call f args = .stuck ∧ ∀ S, cx.callS f args S = .stuck
/-- the context of a piece of code -/
structure Ok (bn : List Str) (nm : Nat → Str) (fs : List Nat) (xc : Str → Addr) (cx : Cxt) (N : List Str) (k : Nat) (X : Cx) (W : WX) (sc : Scope) : Prop where
  calm : X.calm = true
  hN : X.N = N
  nd : X.N.Nodup
  vis : ∀ x, visB sc x = true → Vis X.env.scope x
  loc : ∀ x, locB sc x = true → L2.Loc X.env.scope x ∧ (X.fn x = true ∨ X.env.scope.names.lookup x = some .local)
  gl : ∀ x, glB sc x = true → Gl X x
  blk : ∀ scope own, BlkOk N sc scope own → BlkOk N X.env.scope scope own
  room : Room k X.A
  bn : ∀ b ∈ bn, X.mg b = none
  fns : ∀ f ∈ fs, FnTh X.prog X.w X.K X.mg X.base xc cx k (nm f) f
  tk : Takes X W

section
variable {X : Cx} {W : WX} {xc : Str → Addr}
theorem PE.never {e : Expr} : PE X e fun _ _ _ => False := ⟨fun _ _ _ _ _ _ h => h.elim⟩
/-- f() -/
theorem pe_callS0 {sp : Sp} {E : L2.St → XK} {k : Nat} {f : Addr} {fd : FuncData} {ps : List Str} {x : Str} {p pos : Pos} (F : FnOk X.prog X.w X.K X.mg X.base (L2.CX X.prog X.w) k f fd ps sp) (hr : Room k X.A) (hg : Gl X x) (hm : X.mg x = some (.ref f)) (hk : PySem.W.keepIn X.K (.ref f) = true) (hb : Binds X.K fd ps []) (hx : ∀ σ, PassesAt (L2.CX X.prog X.w) X σ (E σ))
    (hdb : (x == ("__debug__" : Str)) = false) : PE X (.Call (.Name x p) [] [] pos) (fun σ H Q => sp [] H Q (E σ)) := by
  refine ⟨fun pins s σ H Q I h => ?_⟩
  refine wpAny_Call_Name_kw (ld_glob I hg hm ?_ hdb)
  exact PySem.W.callWith_K0 I.kIn hk (run_fnS (us := []) F hr hb (hx σ) I .nil h)
/-- a call by a sentence over its values -/
theorem pe_callT {sem : List D → Store → R D} {k : Nat} {f : Addr} {fd : FuncData} {ps : List Str} {sp : Sp} {x : Str} {p pos : Pos} {es : List Expr} {ma : DEnv → Store → R (List D)}
    (F : FnOk X.prog X.w X.K X.mg X.base (L2.CX X.prog X.w) k f fd ps sp) (hr : Room k X.A) (hg : Gl X x) (hm : X.mg x = some (.ref f)) (hk : PySem.W.keepIn X.K (.ref f) = true) (hb : Binds X.K fd ps []) (tk : Takes X W) (hdb : (x == ("__debug__" : Str)) = false)
    (hns : es.all notStar = true) (ha : PA X es (TL X.K (wsOf xc W) ma)) (h0 : es = [] → ∀ σ S, ma σ S = .ok [] S)
    (hq : ∀ (β : Addr → Prop) (ρ : List Addr) (σd : DEnv) (S : Store) (σ : L2.St) (H : Hp) (xs : List D) (vs : List V) (Q : VK), Rel X.K β ρ σd S σ H → RVs X.K β ρ H xs vs → Pst X.K β ρ σd σ H (wsOf xc W) (sem xs S) (ToV X.K β Q) → sp vs H Q (WE W σ)) :
    PE X (.Call (.Name x p) es [] pos) (T X.K (wsOf xc W) fun σ S => (ma σ S).bind fun xs S1 => sem xs S1) := by
  cases es with
  | nil =>
    refine pe_weak (pe_callS0 F hr hg hm hk hb (fun σ => passAt tk σ) hdb) fun σ H Q h => ?_
    obtain ⟨β, ρ, σd, S, r, h⟩ := h
    dsimp only at h
    rw [h0 rfl σd S] at h
    exact hq β ρ σd S σ H [] [] Q r .nil h
  | cons e es =>
    rw [List.all_cons, Bool.and_eq_true] at hns
    refine pe_weak (pe_callS F hr hg hm hk hb (fun σ => passAt tk σ) ha hdb (starEach_ns hns.1 es X.env) (starEach_any hns.2 pos X.env).1) fun σ H Q h => ?_
    obtain ⟨β, ρ, σd, S, r, h⟩ := h
    exact ⟨β, ρ, σd, S, r, h.bind.imp fun xs ρ1 S1 H1 k1 r1 h1 vs rv => hq β ρ1 σd S1 σ H1 xs vs Q r1 rv h1⟩
theorem rel_sub {K : PySem.W.Frag} {β : Addr → Prop} {ρ : List Addr} {σd : DEnv} {S : Store} {σ : L2.St} {H : Hp} (r : Rel K β ρ σd S σ H) : Rel K β ρ [] S [] H := ⟨rfl, fun i d h => by simp at h, r.nd, r.lenS, r.ob, r.bad⟩
/-- what is true of the frame stays while the callee runs in the same store -/
theorem rel_back {K : PySem.W.Frag} {β : Addr → Prop} {ρ ρ' : List Addr} {σd : DEnv} {S S' : Store} {σ : L2.St} {H H' : Hp} (r : Rel K β ρ σd S σ H) (k : Keep ρ H ρ' H') (r' : Rel K β ρ' [] S' [] H') : Rel K β ρ' σd S' σ H' :=
  ⟨r.len, fun i d h => let ⟨v, e, q⟩ := r.val i d h; ⟨v, e, q.keep k⟩, r'.nd, r'.lenS, r'.ob, r'.bad⟩
theorem same_keep {K : PySem.W.Frag} {β : Addr → Prop} {ρ : List Addr} {σd : DEnv} {S : Store} {σ : L2.St} {H H' : Hp} (r : Rel K β ρ σd S σ H) (h : Same H H') : Keep ρ H ρ H' ∧ Rel K β ρ σd S σ H' := by
  have k : Keep ρ H ρ H' := ⟨⟨[], by simp⟩, fun b o e _ => h b o e, fun b o u e => h b _ e, fun b vs e => h b _ e, fun b h1 h2 => absurd h1 h2⟩
  refine ⟨k, r.step (σd' := σd) (σ' := σ) k fun a ha => ?_⟩
  cases q : H a with
  | none => exact absurd q (r.there ha)
  | some o => exact h a o q
/-- the evaluator's way of a call in a store of its own -/
def semP (g : List D → Res) (m : Bool) (xs : List D) (S1 : Store) : R D := match D.rds S1 xs with
  | none => .stuck
  | some as => match g as with
    | .val d => okIf (D.noRefs xs || d.flat) (.ok d S1)
    | .new (.lst ys) => okIf (D.noRefs xs || D.flats ys) (mk m (.lst ys) S1)
    | .new (.dct t kvs) => okIf (D.noRefs xs || D.flatKs kvs) (mk m (.dct t kvs) S1)
    | .new (.lck _) => .stuck
    | .exc c => .exc c S1
    | .stuck => .stuck
/-- values that the callee hands back, as the caller sees them -/
theorem back_rv {K : PySem.W.Frag} {β : Addr → Prop} {ρ : List Addr} {H : Hp} {d : D} {v : V} (h : RV K (Bad β ρ) [] H d v) : RV K β ρ H d v := by
  have nr : ∀ {d : D} {v : V}, RV K (Bad β ρ) [] H d v → d.noRef = true := by
    intro d v h
    exact noRef_of h
  exact h.move (fun x q => .inl q) (nr h)
/-- a new object that a callee hands over -/
theorem Rel.adopt {K : PySem.W.Frag} {β : Addr → Prop} {ρ : List Addr} {σd : DEnv} {S : Store} {σ : L2.St} {H H' : Hp} {a : Addr} {u : HO} {o : Ob} (r : Rel K β ρ σd S σ H) (hs : Same H H') (ha : H a = none) (hu : H' a = some u) (ru : RU K β (ρ ++ [a]) H' u o) :
    Keep ρ H (ρ ++ [a]) H' ∧ Rel K β (ρ ++ [a]) σd (S ++ [o]) σ H' := by
  have k : Keep ρ H (ρ ++ [a]) H' := ⟨⟨[a], rfl⟩, fun b o e _ => hs b o e, fun b o u e => hs b _ e, fun b vs e => hs b _ e, fun b h1 h2 => by
    rcases List.mem_append.mp h1 with h | h
    · exact absurd h h2
    · rw [List.mem_singleton.mp h]; exact ha⟩
  have hpn : a ∉ ρ := fun z => r.there z ha
  refine ⟨k, r.len, fun i d h => ?_, ?_, by simp [r.lenS], fun i b o' h1 h2 => ?_, fun b h => ⟨?_, fun z => ?_⟩⟩
  · obtain ⟨v, e, q⟩ := r.val i d h
    exact ⟨v, e, q.keep k⟩
  · rw [List.nodup_append]
    refine ⟨r.nd, by simp, fun x hx y hy => ?_⟩
    rw [List.mem_singleton.mp hy]
    exact fun e => hpn (e ▸ hx)
  · by_cases hi : i < ρ.length
    · rw [List.getElem?_append_left hi] at h1
      rw [List.getElem?_append_left (by rw [← r.lenS]; exact hi)] at h2
      have q := r.ob i b o' h1 h2
      cases o' with
      | lck o => obtain ⟨od, w, e1, e2⟩ := q; exact ⟨od, w, hs _ _ e1, e2.keep k⟩
      | lst _ => obtain ⟨w, e1, e2⟩ := q; exact ⟨w, hs _ _ e1, e2.keep k⟩
      | dct _ _ => obtain ⟨w, e1, e2⟩ := q; exact ⟨w, hs _ _ e1, e2.keep k⟩
    · have hi' : i = ρ.length := by
        have := (List.getElem?_eq_some_iff.mp h1).1
        simp at this
        omega
      subst hi'
      rw [List.getElem?_append_right (Nat.le_refl _)] at h1
      rw [List.getElem?_append_right (by rw [r.lenS]; exact Nat.le_refl _)] at h2
      rw [r.lenS] at h2
      simp at h1 h2
      subst h1 h2
      exact RO.of hu ru
  · have q := (r.bad b h).1
    cases e : H b with
    | none => exact absurd e q
    | some o => rw [hs b o e]; simp
  · rcases List.mem_append.mp z with z | z
    · exact (r.bad b h).2 z
    · exact (r.bad b h).1 (by rw [List.mem_singleton.mp z]; exact ha)
/-- nothing in it is a ref -/
def Ob.plain : Ob → Bool
  | .lst ds => D.noRefs ds
  | .dct _ kvs => D.noRefKs kvs
  | .lck _ => false
def Ob.flat : Ob → Bool
  | .lst ds => D.flats ds
  | .dct _ kvs => D.flatKs kvs
  | .lck _ => false
theorem RU.plain {K : PySem.W.Frag} {β : Addr → Prop} {H : Hp} {u : HO} {o : Ob} (h : RU K β [] H u o) : o.plain = true := by
  cases o with
  | lst ds => obtain ⟨vs, _, _, r⟩ := h; exact noRefs_of r
  | dct t kvs =>
    cases t with
    | true => obtain ⟨hk, _, r⟩ := h; exact noRefT_of r
    | false => obtain ⟨hk, _, r⟩ := h; exact noRefK_of r
  | lck o => exact h.elim
theorem RU.move {K : PySem.W.Frag} {β β' : Addr → Prop} {ρ ρ' : List Addr} {H : Hp} {u : HO} {o : Ob} (w : ∀ x, Bad β' ρ' x → Bad β ρ x) (n : o.plain = true) (h : RU K β ρ H u o) : RU K β' ρ' H u o := by
  cases o with
  | lst ds => obtain ⟨vs, e, z, r⟩ := h; exact ⟨vs, e, z, r.move w n⟩
  | dct t kvs =>
    cases t with
    | true => obtain ⟨hk, e, r⟩ := h; exact ⟨hk, e, r.move w n⟩
    | false => obtain ⟨hk, e, r⟩ := h; exact ⟨hk, e, r.move w n⟩
  | lck o => exact h.elim
theorem RU.flatMove {K : PySem.W.Frag} {β β' : Addr → Prop} {ρ ρ' : List Addr} {H : Hp} {u : HO} {o : Ob} (n : o.flat = true) (h : RU K β ρ H u o) : RU K β' ρ' H u o := by
  cases o with
  | lst ds => obtain ⟨vs, e, z, r⟩ := h; exact ⟨vs, e, z, r.flatMove n⟩
  | dct t kvs =>
    cases t with
    | true => obtain ⟨hk, e, r⟩ := h; exact ⟨hk, e, r.flatMove n⟩
    | false => obtain ⟨hk, e, r⟩ := h; exact ⟨hk, e, r.flatMove n⟩
  | lck o => exact h.elim
theorem take_new {K : PySem.W.Frag} {β : Addr → Prop} {ρ : List Addr} {σd : DEnv} {S : Store} {σ : L2.St} {H H' : Hp} {a : Addr} {u : HO} {o : Ob} {m : Bool} {Q : VK} {Ws : WS} (r : Rel K β ρ σd S σ H) (hs : Same H H') (ha : H a = none) (hu : H' a = some u) (np : o.plain = true) (ru : RU K β (ρ ++ [a]) H' u o)
    (h : Pst K β ρ σd σ H Ws (mk m o S) (ToV K β Q)) : Q (.ref a) H' := by
  have nb : ¬ Bad β ρ a := r.fresh ha
  have wk : ∀ x, Bad β ρ x → Bad β (ρ ++ [a]) x := fun x q => q.elim .inl fun z => .inr (List.mem_append_left _ z)
  cases m with
  | true =>
    obtain ⟨k, r'⟩ := r.adopt hs ha hu ru
    refine h (ρ ++ [a]) H' k r' _ (.ref ?_)
    rw [← r.lenS, List.getElem?_append_right (Nat.le_refl _)]
    simp
  | false =>
    obtain ⟨k, r'⟩ := same_keep r hs
    have ru' := RU.move wk np ru
    cases o with
    | lst ds =>
      obtain ⟨vs, eu, z, rv⟩ := ru'
      subst eu
      exact h ρ H' k r' _ (.lst ⟨z, .inl ⟨.inl hu, nb⟩⟩ rv)
    | dct t kvs =>
      cases t with
      | true => obtain ⟨hk, eu, rv⟩ := ru'; subst eu; exact h ρ H' k r' _ (.dT (.inl hu) nb rv)
      | false => obtain ⟨hk, eu, rv⟩ := ru'; subst eu; exact h ρ H' k r' _ (.dK (.inl hu) nb rv)
    | lck o => exact h.elim
/-- the evaluator's call in a store of its own is the callee's promise -/
theorem semP_sp {K : PySem.W.Frag} {xc : Str → Addr} {W : WX} {g : List D → Res} {m : Bool} {β : Addr → Prop} {ρ : List Addr} {σd : DEnv} {S : Store} {σ : L2.St} {H : Hp} {xs : List D} {vs : List V} {Q : VK} (r : Rel K β ρ σd S σ H) (rv : RVs K β ρ H xs vs)
    (h : Pst K β ρ σd σ H (wsOf xc W) (semP g m xs S) (ToV K β Q)) : spP K xc g vs H Q (WE W σ) := by
  unfold semP at h
  cases e : D.rds S xs with
  | none => rw [e] at h; exact h.elim
  | some as =>
    rw [e] at h
    simp only at h
    by_cases n : D.noRefs xs = true
    · -- nothing handed over can be changed
      have ea : as = xs := by
        unfold D.rds at e
        rw [subs_noRef xs n] at e
        exact (Option.some.inj e).symm
      subst ea
      refine ⟨Bad β ρ, as, rv.move (fun x q => q.elim id fun z => (List.not_mem_nil z).elim) n, fun a q => q.elim (fun z => (r.bad a z).1) fun z => r.there z, ?_⟩
      cases eg : g as with
      | val d =>
        simp only [eg] at h
        obtain ⟨_, h⟩ := Pst.okIf h
        intro H' v hs q
        obtain ⟨k, r'⟩ := same_keep r hs
        exact h ρ H' k r' v (back_rv q)
      | new o =>
        intro H' a u hs ha hu ru
        have np := RU.plain ru
        have ru' : RU K β (ρ ++ [a]) H' u o := RU.move (fun x q => q.elim (fun z => .inl (.inl (.inl z))) fun z => (List.mem_append.mp z).elim (fun y => .inl (.inl (.inr y))) fun y => .inl (.inr (List.mem_singleton.mp y))) np ru
        cases o with
        | lst ys => simp only [eg] at h; exact take_new r hs ha hu np ru' (Pst.okIf h).2
        | dct t kvs => simp only [eg] at h; exact take_new r hs ha hu np ru' (Pst.okIf h).2
        | lck o => simp only [eg] at h; exact h.elim
      | exc c =>
        simp only [eg] at h
        intro H' hs
        obtain ⟨k, r'⟩ := same_keep r hs
        exact h ρ H' k r'
      | stuck => simp only [eg] at h; exact h.elim
    · -- what is handed over is only read
      have nf : D.noRefs xs = false := by
        cases q : D.noRefs xs with
        | true => exact absurd q n
        | false => rfl
      refine ⟨Free, as, rv_subs (γ := Free) (bad_of fun _ z => z.elim) (rv_rdN (fun _ z => z.elim) r 8) xs vs as rv e, fun a q => q.elim, ?_⟩
      cases eg : g as with
      | val d =>
        simp only [eg] at h
        obtain ⟨c, h⟩ := Pst.okIf h
        rw [nf, Bool.false_or] at c
        intro H' v hs q
        obtain ⟨k, r'⟩ := same_keep r hs
        exact h ρ H' k r' v (q.flatMove c)
      | new o =>
        intro H' a u hs ha hu ru
        have np := RU.plain ru
        cases o with
        | lst ys =>
          simp only [eg] at h
          obtain ⟨c, h⟩ := Pst.okIf h
          rw [nf, Bool.false_or] at c
          exact take_new r hs ha hu np (RU.flatMove c ru) h
        | dct t kvs =>
          simp only [eg] at h
          obtain ⟨c, h⟩ := Pst.okIf h
          rw [nf, Bool.false_or] at c
          exact take_new r hs ha hu np (RU.flatMove c ru) h
        | lck o => simp only [eg] at h; exact h.elim
      | exc c =>
        simp only [eg] at h
        intro H' hs
        obtain ⟨k, r'⟩ := same_keep r hs
        exact h ρ H' k r'
      | stuck => simp only [eg] at h; exact h.elim
theorem semS_sp {K : PySem.W.Frag} {xc : Str → Addr} {W : WX} {g : List D → Store → R D} {β : Addr → Prop} {ρ : List Addr} {σd : DEnv} {S : Store} {σ : L2.St} {H : Hp} {xs : List D} {vs : List V} {Q : VK} (r : Rel K β ρ σd S σ H) (rv : RVs K β ρ H xs vs)
    (h : Pst K β ρ σd σ H (wsOf xc W) (g xs S) (ToV K β Q)) : spS K xc g vs H Q (WE W σ) := by
  refine ⟨β, ρ, xs, S, rel_sub r, rv, ?_⟩
  cases eg : g xs S with
  | ok d S' => rw [eg] at h; exact fun ρ' H' v k r' q => h ρ' H' k (rel_back r k r') v q
  | exc c S' => rw [eg] at h; exact fun ρ' H' k r' => h ρ' H' k (rel_back r k r')
  | stuck => rw [eg] at h; exact h.elim
theorem subs_len {f : Nat → Option D} : ∀ {ds es : List D}, D.subs f ds = some es → es.length = ds.length
  | [], es, h => by cases h; rfl
  | d :: ds, es, h => by
    rw [D.subs] at h
    obtain ⟨y, e1, e2⟩ := Option.bind_eq_some_iff.mp h
    obtain ⟨ys, e3, e4⟩ := Option.map_eq_some_iff.mp e2
    subst e4
    rw [List.length_cons, List.length_cons, subs_len e3]
/-- a call, by the context -/
theorem Ok.call {bn : List Str} {nm : Nat → Str} {fs : List Nat} {cx : Cxt} {N : List Str} {k : Nat} {sc : Scope} (ok : Ok bn nm fs xc cx N k X W sc) {f : Nat} (hf : f ∈ fs) {m : Bool} {p pos : Pos} {es : List Expr} {ma : DEnv → Store → R (List D)} (hg : Gl X (nm f)) (hdb : (nm f == ("__debug__" : Str)) = false)
    (hns : es.all notStar = true) (ha : PA X es (TL X.K (wsOf xc W) ma)) (h0 : es = [] → ∀ σ S, ma σ S = .ok [] S) :
    PE X (.Call (.Name (nm f) p) es [] pos) (T X.K (wsOf xc W) fun σ S => (ma σ S).bind fun xs S1 => semP (cx.call f) m xs S1) := by
  obtain ⟨fa, fd, ps, h1, h2, h3, h4, h5⟩ := ok.fns f hf
  refine pe_callT h4 ok.room hg h1 h2 h3 ok.tk hdb hns ha h0 fun β ρ σd S σ H xs vs Q r rv h => ?_
  refine ⟨?_, .inl (semP_sp r rv h)⟩
  refine Classical.byContradiction fun z => ?_
  unfold semP at h
  cases e : D.rds S xs with
  | none => rw [e] at h; exact h.elim
  | some as =>
    rw [e] at h
    have hl : as.length = vs.length := by
      rw [← rv.length]
      exact subs_len e
    simp only [(h5 as (by rw [hl]; exact z)).1] at h
    exact h.elim
theorem Ok.callS {bn : List Str} {nm : Nat → Str} {fs : List Nat} {cx : Cxt} {N : List Str} {k : Nat} {sc : Scope} (ok : Ok bn nm fs xc cx N k X W sc) {f : Nat} (hf : f ∈ fs) {p pos : Pos} {es : List Expr} {ma : DEnv → Store → R (List D)} (hg : Gl X (nm f)) (hdb : (nm f == ("__debug__" : Str)) = false)
    (hns : es.all notStar = true) (ha : PA X es (TL X.K (wsOf xc W) ma)) (h0 : es = [] → ∀ σ S, ma σ S = .ok [] S) :
    PE X (.Call (.Name (nm f) p) es [] pos) (T X.K (wsOf xc W) fun σ S => (ma σ S).bind fun xs S1 => cx.callS f xs S1) := by
  obtain ⟨fa, fd, ps, h1, h2, h3, h4, h5⟩ := ok.fns f hf
  refine pe_callT h4 ok.room hg h1 h2 h3 ok.tk hdb hns ha h0 fun β ρ σd S σ H xs vs Q r rv h => ?_
  refine ⟨?_, .inr (semS_sp r rv h)⟩
  refine Classical.byContradiction fun z => ?_
  rw [(h5 xs (by rw [rv.length]; exact z)).2 S] at h
  exact h.elim
end
end DD

namespace DD
open PySem PySem.Spec PyProof.Rows L2

section
variable {K : PySem.W.Frag} {β β' : Addr → Prop} {ρ : List Addr} {H H' : Hp}
theorem ImL.mono (hr : ∀ b u, ¬ Bad β ρ b → Rd H b u → Rd H' b u ∧ ¬ Bad β' ρ b) {a : Addr} {vs : List V} (h : ImL K (Bad β ρ) H a vs) : ImL K (Bad β' ρ) H' a vs := by
  obtain ⟨z, ⟨h1, h2⟩ | h1⟩ := h
  · exact ⟨z, .inl (hr _ _ h2 h1)⟩
  · exact ⟨z, .inr h1⟩
mutual
/-- the same values in another heap, with other forbidden addresses -/
theorem RV.mono (hr : ∀ b u, ¬ Bad β ρ b → Rd H b u → Rd H' b u ∧ ¬ Bad β' ρ b) (ht : ∀ b vs, H b = some (.tup vs) → H' b = some (.tup vs)) : ∀ {d : D} {v : V}, RV K β ρ H d v → RV K β' ρ H' d v
  | _, _, .non => .non
  | _, _, .bl b => .bl b
  | _, _, .int i => .int i
  | _, _, .str x => .str x
  | _, _, .tup h z r => .tup (ht _ _ h) z (RVs.mono hr ht r)
  | _, _, .lst h r => .lst (h.mono hr) (RVs.mono hr ht r)
  | _, _, .dT h n r => .dT (hr _ _ n h).1 (hr _ _ n h).2 (RKT.mono hr ht r)
  | _, _, .dK h n r => .dK (hr _ _ n h).1 (hr _ _ n h).2 (RKK.mono hr ht r)
  | _, _, .ref h => .ref h
theorem RVs.mono (hr : ∀ b u, ¬ Bad β ρ b → Rd H b u → Rd H' b u ∧ ¬ Bad β' ρ b) (ht : ∀ b vs, H b = some (.tup vs) → H' b = some (.tup vs)) : ∀ {ds : List D} {vs : List V}, RVs K β ρ H ds vs → RVs K β' ρ H' ds vs
  | _, _, .nil => .nil
  | _, _, .cons h r => .cons (RV.mono hr ht h) (RVs.mono hr ht r)
theorem RKT.mono (hr : ∀ b u, ¬ Bad β ρ b → Rd H b u → Rd H' b u ∧ ¬ Bad β' ρ b) (ht : ∀ b vs, H b = some (.tup vs) → H' b = some (.tup vs)) : ∀ {ds : List (D × D)} {vs : List (List Key × V)}, RKT K β ρ H ds vs → RKT K β' ρ H' ds vs
  | _, _, .nil => .nil
  | _, _, .cons z h r => .cons z (RV.mono hr ht h) (RKT.mono hr ht r)
theorem RKK.mono (hr : ∀ b u, ¬ Bad β ρ b → Rd H b u → Rd H' b u ∧ ¬ Bad β' ρ b) (ht : ∀ b vs, H b = some (.tup vs) → H' b = some (.tup vs)) : ∀ {ds : List (D × D)} {vs : List (Key × V)}, RKK K β ρ H ds vs → RKK K β' ρ H' ds vs
  | _, _, .nil => .nil
  | _, _, .cons h r => .cons (RV.mono hr ht h) (RKK.mono hr ht r)
end
theorem RU.mono (hr : ∀ b u, ¬ Bad β ρ b → Rd H b u → Rd H' b u ∧ ¬ Bad β' ρ b) (ht : ∀ b vs, H b = some (.tup vs) → H' b = some (.tup vs)) {u : HO} {o : Ob} (h : RU K β ρ H u o) : RU K β' ρ H' u o := by
  cases o with
  | lst ds => obtain ⟨vs, e, z, r⟩ := h; exact ⟨vs, e, z, r.mono hr ht⟩
  | dct t kvs =>
    cases t with
    | true => obtain ⟨hk, e, r⟩ := h; exact ⟨hk, e, r.mono hr ht⟩
    | false => obtain ⟨hk, e, r⟩ := h; exact ⟨hk, e, r.mono hr ht⟩
  | lck o => exact h
theorem Rel.mono {σd : DEnv} {S : Store} {σ : L2.St} (r : Rel K β ρ σd S σ H) (hr : ∀ b u, ¬ Bad β ρ b → Rd H b u → Rd H' b u ∧ ¬ Bad β' ρ b) (ht : ∀ b vs, H b = some (.tup vs) → H' b = some (.tup vs)) (hs : ∀ a ∈ ρ, H' a = H a) (hb : ∀ a, β' a → H' a ≠ none ∧ a ∉ ρ) : Rel K β' ρ σd S σ H' := by
  refine ⟨r.len, fun i d h => ?_, r.nd, r.lenS, fun i a o h1 h2 => ?_, hb⟩
  · obtain ⟨v, e, q⟩ := r.val i d h
    exact ⟨v, e, q.mono hr ht⟩
  · have q := r.ob i a o h1 h2
    have e := hs a (List.mem_of_getElem? h1)
    cases o with
    | lck o => obtain ⟨od, u, e1, e2⟩ := q; exact ⟨od, u, e.trans e1, e2.mono hr ht⟩
    | lst _ => obtain ⟨u, e1, e2⟩ := q; exact ⟨u, e.trans e1, e2.mono hr ht⟩
    | dct _ _ => obtain ⟨u, e1, e2⟩ := q; exact ⟨u, e.trans e1, e2.mono hr ht⟩
end

/-! ### walks -/
/-- J walks xs, from the heap H on -/
def Walks (K : PySem.W.Frag) (β : Addr → Prop) (ρ : List Addr) (H : Hp) (J : It) (xs : List D) : Prop :=
  ∀ (β' : Addr → Prop) (ρ' : List Addr) (H' : Hp), (∀ a, β a → β' a) → (∀ a, β' a → ¬ β a → H a = none) → Keep ρ H ρ' H' → ∀ i, (i < xs.length → J.go i H') ∧ (xs.length ≤ i → J.stop i H') ∧
    ∀ d x H'', xs[i]? = some d → J.yld i H' x H'' → Keep ρ' H' ρ' H'' ∧ (∀ a ∈ ρ', H'' a = H' a) ∧ (∀ a, H' a ≠ none → H'' a = H' a) ∧ RV K β' ρ' H'' d x
def TI' (K : PySem.W.Frag) (W : WS) (m : DEnv → Store → R (List D)) : L2.TI := fun σ H Rr => ∃ β ρ σd S, Rel K β ρ σd S σ H ∧ Pst K β ρ σd σ H W (m σd S) fun xs ρ1 S1 H1 => xs.length ≤ sizeLine → ∀ J, Walks K β ρ1 H1 J xs → Rr J H1
theorem pi_weak {X : Cx} {tg e : Expr} {t t' : L2.TI} (h : PI X tg e t) (w : ∀ σ H Q, t' σ H Q → t σ H Q) : PI X tg e t' := ⟨fun pins s σ H Q I q => h.run pins s σ H Q I (w σ H Q q)⟩
theorem pi_or {X : Cx} {tg e : Expr} {t t' : L2.TI} (h : PI X tg e t) (h' : PI X tg e t') : PI X tg e (fun σ H Q => t σ H Q ∨ t' σ H Q) := ⟨fun pins s σ H Q I q => q.elim (h.run pins s σ H Q I) (h'.run pins s σ H Q I)⟩
section
variable {K : PySem.W.Frag} {β : Addr → Prop} {ρ : List Addr} {H : Hp}
/-- values stay while what is forbidden grows by new addresses -/
theorem RV.grow {β' : Addr → Prop} {ρ' : List Addr} {H' : Hp} (hb : ∀ a, β' a → ¬ β a → H a = none) (k : Keep ρ H ρ' H') {d : D} {v : V} (h : RV K β ρ H d v) : RV K β' ρ' H' d v := by
  have h1 : RV K β' ρ H d v := h.mono (fun b u n q => ⟨q, fun z => z.elim (fun y => by
    have e := hb b y fun w => n (.inl w)
    rcases q with q | ⟨o, q⟩ <;> (rw [e] at q; cases q)) fun y => n (.inr y)⟩) fun _ _ q => q
  exact h1.keep k
theorem RVs.growL {β' : Addr → Prop} {ρ' : List Addr} {H' : Hp} (hb : ∀ a, β' a → ¬ β a → H a = none) (k : Keep ρ H ρ' H') : ∀ {ds : List D} {vs : List V}, RVs K β ρ H ds vs → RVs K β' ρ' H' ds vs
  | _, _, .nil => .nil
  | _, _, .cons h r => .cons (h.grow hb k) (RVs.growL hb k r)
/-- a list that nobody can change -/
theorem walks_list {a : Addr} {vs : List V} {xs : List D} (hl : ∀ ρ' H', Keep ρ H ρ' H' → SqL K H' a vs) (rv : RVs K β ρ H xs vs) : Walks K β ρ H (Itl K a) xs := fun β' ρ' H' _ hb k i => by
  have q := hl ρ' H' k
  have e := rv.length
  refine ⟨fun hi => ?_, fun hi => ⟨vs, q, by omega⟩, fun d x H'' hd y => ?_⟩
  · exact ⟨vs, vs[i]'(by omega), q, List.getElem?_eq_getElem (by omega)⟩
  · obtain ⟨e1, e2⟩ := y
    subst e1
    obtain ⟨v, e3, r3⟩ := rv.get hd
    have ex : v = x := Option.some.inj (e3.symm.trans (e2 vs q))
    subst ex
    exact ⟨Keep.refl _ _, fun _ _ => rfl, fun _ _ => rfl, r3.grow hb k⟩
theorem walks_tup {a : Addr} {vs : List V} {xs : List D} (hl : H a = some (.tup vs)) (rv : RVs K β ρ H xs vs) : Walks K β ρ H (Itt K a) xs := fun β' ρ' H' _ hb k i => by
  have q : SqT K H' a vs := SqT.of (k.tups _ _ hl)
  have e := rv.length
  refine ⟨fun hi => ?_, fun hi => ⟨vs, q, by omega⟩, fun d x H'' hd y => ?_⟩
  · exact ⟨vs, vs[i]'(by omega), q, List.getElem?_eq_getElem (by omega)⟩
  · obtain ⟨e1, e2⟩ := y
    subst e1
    obtain ⟨v, e3, r3⟩ := rv.get hd
    have ex : v = x := Option.some.inj (e3.symm.trans (e2 vs q))
    subst ex
    exact ⟨Keep.refl _ _, fun _ _ => rfl, fun _ _ => rfl, r3.grow hb k⟩
theorem walks_range (lo : Int) (n : Nat) : Walks K β ρ H (Itr lo n) (intsFrom lo n) := fun β' ρ' H' _ _ k i => by
  have hl : (intsFrom lo n).length = n := by unfold intsFrom; simp
  refine ⟨fun hi => by rw [hl] at hi; exact hi, fun hi => by rw [hl] at hi; exact hi, fun d x H'' hd y => ?_⟩
  obtain ⟨e1, e2⟩ := y
  subst e1 e2
  unfold intsFrom at hd
  rw [List.getElem?_map] at hd
  obtain ⟨j, h1, h2⟩ := Option.map_eq_some_iff.mp hd
  have : j = i := by
    have := List.getElem?_range (n := n) (i := i) (by
      have := (List.getElem?_eq_some_iff.mp h1).1
      simpa using this)
    rw [this] at h1
    exact (Option.some.inj h1).symm
  subst this h2
  exact ⟨Keep.refl _ _, fun _ _ => rfl, fun _ _ => rfl, .int _⟩
end
section
variable {K : PySem.W.Frag} {β : Addr → Prop} {ρ : List Addr} {H : Hp}
theorem RKT.get : ∀ {kvs : List (D × D)} {hk : List (List Key × V)} {i : Nat} {d : D}, RKT K β ρ H kvs hk → (kvs.map (·.1))[i]? = some d → ∃ k v, hk[i]? = some (k, v) ∧ d = .tup (k.map keyD) ∧ k.length ≤ sizeLine
  | _, _, _, _, .nil, e => by simp at e
  | _, _, 0, _, .cons (k := k) (v := v) z h _, e => by simp at e; subst e; exact ⟨k, v, rfl, rfl, z⟩
  | _, _, i + 1, _, .cons _ _ r, e => by
    obtain ⟨k, v, e1, e2⟩ := RKT.get (i := i) r (by simpa using e)
    exact ⟨k, v, by simpa using e1, e2⟩
theorem RKK.get : ∀ {kvs : List (D × D)} {hk : List (Key × V)} {i : Nat} {d : D}, RKK K β ρ H kvs hk → (kvs.map (·.1))[i]? = some d → ∃ k v, hk[i]? = some (k, v) ∧ d = keyD k
  | _, _, _, _, .nil, e => by simp at e
  | _, _, 0, _, .cons (k := k) (v := v) h _, e => by simp at e; subst e; exact ⟨k, v, rfl, rfl⟩
  | _, _, i + 1, _, .cons _ r, e => by
    obtain ⟨k, v, e1, e2⟩ := RKK.get (i := i) r (by simpa using e)
    exact ⟨k, v, by simpa using e1, e2⟩
theorem walks_keysT {a : Addr} {od : Obj} {kvs : List (D × D)} {hk : List (List Key × V)} (hl : H a = some (.frz od (.dT hk))) (rv : RKT K β ρ H kvs hk) : Walks K β ρ H (Itkt a od hk) (kvs.map (·.1)) := fun β' ρ' H' _ _ k i => by
  have q := k.frz _ _ _ hl
  have e := rv.length
  rw [List.length_map]
  refine ⟨fun hi => ⟨q, by omega⟩, fun hi => ⟨q, by omega⟩, fun d x H'' hd y => ?_⟩
  obtain ⟨e1, k1, v, p, e2, e3, e4⟩ := y
  subst e1 e3
  obtain ⟨k2, v2, e5, e6, z⟩ := rv.get hd
  rw [e2] at e5
  cases e5
  subst e6
  exact ⟨Keep.refl _ _, fun _ _ => rfl, fun _ _ => rfl, .tup e4 (by rw [List.length_map]; exact z) (.of_keys k1)⟩
theorem walks_keysK {a : Addr} {od : Obj} {kvs : List (D × D)} {hk : List (Key × V)} (hl : H a = some (.frz od (.dK hk))) (rv : RKK K β ρ H kvs hk) : Walks K β ρ H (Itk a od hk) (kvs.map (·.1)) := fun β' ρ' H' _ _ k i => by
  have q := k.frz _ _ _ hl
  have e := rv.length
  rw [List.length_map]
  refine ⟨fun hi => ⟨q, by omega⟩, fun hi => ⟨q, by omega⟩, fun d x H'' hd y => ?_⟩
  obtain ⟨e1, k1, v, e2, e3⟩ := y
  subst e1 e3
  obtain ⟨k2, v2, e5, e6⟩ := rv.get hd
  rw [e2] at e5
  cases e5
  subst e6
  exact ⟨Keep.refl _ _, fun _ _ => rfl, fun _ _ => rfl, .of_key k1⟩
end
/-- a value that is walked -/
theorem pi_val {X : Cx} {W : WS} {tg e : Expr} {m : DEnv → Store → R D} (he : PE X e (T X.K W m)) : PI X tg e (TI' X.K W fun σ S => (m σ S).bind fun d S1 => match itemsOf S1 d with
    | some xs => .ok xs S1
    | none => .stuck) := by
  refine pi_weak (pi_or (pi_list he) (pi_or (pi_tup he) (pi_keys he))) fun σ H Rr h => ?_
  obtain ⟨β, ρ, σd, S, r, h⟩ := h
  have h := Pst.bind h
  cases e : m σd S with
  | stuck => rw [e] at h; exact h.elim
  | exc c S1 => rw [e] at h; exact .inl ⟨β, ρ, σd, S, r, by rw [e]; exact h⟩
  | ok d S1 =>
    rw [e] at h
    cases ei : itemsOf S1 d with
    | none =>
      -- never comes to be walked
      refine .inl ⟨β, ρ, σd, S, r, ?_⟩
      rw [e]
      intro ρ1 H1 k1 r1 v rv
      have q := h ρ1 H1 k1 r1
      simp only [ei] at q
      exact q.elim
    | some xs =>
      have hq : ∀ ρ1 H1, Keep ρ H ρ1 H1 → Rel X.K β ρ1 σd S1 σ H1 → xs.length ≤ sizeLine → ∀ J, Walks X.K β ρ1 H1 J xs → Rr J H1 := fun ρ1 H1 k1 r1 => by
        have q := h ρ1 H1 k1 r1
        simp only [ei] at q
        exact q.here r1
      cases d with
      | lst ds =>
        cases ei
        refine .inl ⟨β, ρ, σd, S, r, ?_⟩
        rw [e]
        intro ρ1 H1 k1 r1 v rv
        cases rv with
        | @lst a vs _ hl rv =>
          refine ⟨a, rfl, ⟨vs, hl.seq⟩, hq ρ1 H1 k1 r1 (by rw [rv.length]; exact hl.1) _ (walks_list (fun ρ2 H2 k2 => (hl.keep k2).seq) rv)⟩
      | tup ds =>
        cases ei
        refine .inr (.inl ⟨β, ρ, σd, S, r, ?_⟩)
        rw [e]
        intro ρ1 H1 k1 r1 v rv
        obtain ⟨a, vs, rfl, h1, h2, h3⟩ := rv.tup_inv
        exact ⟨a, rfl, ⟨vs, SqT.of h1⟩, hq ρ1 H1 k1 r1 (by rw [h3.length]; exact h2) _ (walks_tup h1 h3)⟩
      | ref i =>
        unfold itemsOf at ei
        simp only at ei
        cases eo : S1[i]? with
        | none => rw [eo] at ei; cases ei
        | some o =>
          rw [eo] at ei
          cases o with
          | lst _ => cases ei
          | dct _ _ => cases ei
          | lck o =>
            simp only at ei
            cases eu : o.inner with
            | lck _ => rw [eu] at ei; cases ei
            | lst ds =>
              rw [eu] at ei
              cases ei
              refine .inl ⟨β, ρ, σd, S, r, ?_⟩
              rw [e]
              intro ρ1 H1 k1 r1 v rv
              cases rv with
              | @ref _ a hi =>
                obtain ⟨od, u, ha, hu⟩ := r1.ob i a _ hi eo
                rw [eu] at hu
                obtain ⟨vs, eu2, z, rv⟩ := hu
                subst eu2
                exact ⟨a, rfl, ⟨vs, .inl (.inr ⟨od, ha⟩)⟩, hq ρ1 H1 k1 r1 (by rw [rv.length]; exact z) _ (walks_list (fun ρ2 H2 k2 => .inl (.inr ⟨od, k2.frz _ _ _ ha⟩)) rv)⟩
            | dct t kvs =>
              rw [eu] at ei
              simp only at ei
              split at ei
              · rename_i hz
                cases ei
                refine .inr (.inr ⟨β, ρ, σd, S, r, ?_⟩)
                rw [e]
                intro ρ1 H1 k1 r1 v rv
                cases rv with
                | @ref _ a hi =>
                  obtain ⟨od, u, ha, hu⟩ := r1.ob i a _ hi eo
                  rw [eu] at hu
                  cases t with
                  | true =>
                    obtain ⟨hk, eu2, rk⟩ := hu
                    subst eu2
                    exact ⟨a, od, rfl, .inr ⟨hk, ha, hq ρ1 H1 k1 r1 (by rw [List.length_map]; exact hz) _ (walks_keysT ha rk)⟩⟩
                  | false =>
                    obtain ⟨hk, eu2, rk⟩ := hu
                    subst eu2
                    exact ⟨a, od, rfl, .inl ⟨hk, ha, hq ρ1 H1 k1 r1 (by rw [List.length_map]; exact hz) _ (walks_keysK ha rk)⟩⟩
              · cases ei
      | _ => cases ei
theorem sizeLine_small : (sizeLine : Int) < 2 ^ 62 := by decide
/-- range(n) -/
theorem pi_rng1 {X : Cx} {W : WS} {tg a : Expr} {p pos : Pos} {ma : DEnv → Store → R (List D)} (hg : Gl X "range") (hm : X.mg "range" = none) (ha : PA X [a] (TL X.K W ma)) (hs : starEach [a] X.env = [(false, eval a X.env)]) :
    PI X tg (.Call (.Name "range" p) [a] [] pos) (TI' X.K W fun σ S => (ma σ S).bind fun xs S1 => itK .range1 xs S1) := by
  refine pi_weak (pi_range1 hg hm ha hs) fun σ H Rr h => ?_
  obtain ⟨β, ρ, σd, S, r, h⟩ := h
  refine ⟨β, ρ, σd, S, r, h.bind.imp fun xs ρ1 S1 H1 k1 r1 h1 vs rv => ?_⟩
  match xs, rv, h1 with
  | [d], rv, h1 =>
    have h2 : Pst X.K β ρ1 σd σ H1 W (match d.int? with
      | some j => okIf (decide (-(2 ^ 62) ≤ j ∧ j ≤ sizeLine)) (.ok (intsFrom 0 j.toNat) S1)
      | none => .stuck) (fun xs ρ1 S1 H1 => xs.length ≤ sizeLine → ∀ J, Walks X.K β ρ1 H1 J xs → Rr J H1) := h1
    clear h1
    cases e : d.int? with
    | none => simp only [e] at h2; exact h2.elim
    | some j =>
      simp only [e] at h2
      obtain ⟨c, h1⟩ := Pst.okIf h2
      obtain ⟨c1, c2⟩ := of_decide_eq_true c
      have ed := int?_inv e
      subst ed
      obtain ⟨v, ev, rv⟩ := rv.one_inv
      rw [rv.int_inv] at ev
      have hl : (intsFrom 0 j.toNat).length = j.toNat := by unfold intsFrom; simp
      exact ⟨j, ev, c1, Int.lt_of_le_of_lt c2 sizeLine_small, (h1.here r1) (by rw [hl]; omega) _ (walks_range 0 j.toNat)⟩
  | [], rv, h1 => exact h1.elim
  | _ :: _ :: _, rv, h1 => exact h1.elim
/-- range(a, b) -/
theorem pi_rng2 {X : Cx} {W : WS} {tg a b : Expr} {p pos : Pos} {ma : DEnv → Store → R (List D)} (hg : Gl X "range") (hm : X.mg "range" = none) (ha : PA X [a, b] (TL X.K W ma)) (hs : starEach [a, b] X.env = [(false, eval a X.env), (false, eval b X.env)]) (hs2 : starEach [b] X.env = [(false, eval b X.env)]) :
    PI X tg (.Call (.Name "range" p) [a, b] [] pos) (TI' X.K W fun σ S => (ma σ S).bind fun xs S1 => itK .range2 xs S1) := by
  refine pi_weak (pi_range2 hg hm ha hs hs2) fun σ H Rr h => ?_
  obtain ⟨β, ρ, σd, S, r, h⟩ := h
  refine ⟨β, ρ, σd, S, r, h.bind.imp fun xs ρ1 S1 H1 k1 r1 h1 vs rv => ?_⟩
  match xs, rv, h1 with
  | [d, d'], rv, h1 =>
    have h2 : Pst X.K β ρ1 σd σ H1 W (match d.int?, d'.int? with
      | some i, some j => okIf (decide (-(2 ^ 62) ≤ i ∧ i < 2 ^ 62 ∧ -(2 ^ 62) ≤ j ∧ j < 2 ^ 62 ∧ j - i ≤ sizeLine)) (.ok (intsFrom i (j - i).toNat) S1)
      | _, _ => .stuck) (fun xs ρ1 S1 H1 => xs.length ≤ sizeLine → ∀ J, Walks X.K β ρ1 H1 J xs → Rr J H1) := h1
    clear h1
    cases e : d.int? with
    | none => simp only [e] at h2; exact h2.elim
    | some i =>
      cases e' : d'.int? with
      | none => simp only [e, e'] at h2; exact h2.elim
      | some j =>
        simp only [e, e'] at h2
        obtain ⟨c, h1⟩ := Pst.okIf h2
        obtain ⟨c1, c2, c3, c4, c5⟩ := of_decide_eq_true c
        have ed := int?_inv e
        have ed' := int?_inv e'
        subst ed ed'
        obtain ⟨v, u, ev, rv, ru⟩ := rv.two_inv
        rw [rv.int_inv, ru.int_inv] at ev
        have hl : (intsFrom i (j - i).toNat).length = (j - i).toNat := by unfold intsFrom; simp
        exact ⟨i, j, ev, ⟨c1, c2, c3, c4⟩, (h1.here r1) (by rw [hl]; omega) _ (walks_range i (j - i).toNat)⟩
  | [], rv, h1 => exact h1.elim
  | [_], rv, h1 => exact h1.elim
  | _ :: _ :: _ :: _, rv, h1 => exact h1.elim
end DD

namespace DD
open PySem PySem.Spec PyProof.Rows L2

/-! ### slots forgotten -/
theorem wipe_get {σ : L2.St} : ∀ (vs : List Nat) (i : Nat), (wipe σ vs)[i]? = if i ∈ vs then σ[i]?.map (fun _ => none) else σ[i]?
  | [], i => by simp [wipe]
  | v :: vs, i => by
    rw [wipe, List.getElem?_set, wipe_get vs i, wipe_length]
    by_cases h : v = i
    · subst h
      simp only [if_true, List.mem_cons, true_or]
      by_cases hl : v < σ.length
      · rw [if_pos hl, List.getElem?_eq_getElem hl]; rfl
      · rw [if_neg hl, List.getElem?_eq_none (by omega)]; rfl
    · rw [if_neg h]
      have : (i ∈ v :: vs) ↔ i ∈ vs := by simp [Ne.symm h]
      simp only [this]
theorem wipeD_length (σ : DEnv) : ∀ vs : List Nat, (wipeD σ vs).length = σ.length
  | [] => rfl
  | v :: vs => by unfold wipeD; rw [List.length_set, wipeD_length σ vs]
theorem wipeD_get {σ : DEnv} : ∀ (vs : List Nat) (i : Nat), (wipeD σ vs)[i]? = if i ∈ vs then σ[i]?.map (fun _ => none) else σ[i]?
  | [], i => by simp [wipeD]
  | v :: vs, i => by
    rw [wipeD, List.getElem?_set, wipeD_get vs i, wipeD_length]
    by_cases h : v = i
    · subst h
      simp only [if_true, List.mem_cons, true_or]
      by_cases hl : v < σ.length
      · rw [if_pos hl, List.getElem?_eq_getElem hl]; rfl
      · rw [if_neg hl, List.getElem?_eq_none (by omega)]; rfl
    · rw [if_neg h]
      have : (i ∈ v :: vs) ↔ i ∈ vs := by simp [Ne.symm h]
      simp only [this]
theorem wipe_wipe (σ : L2.St) (vs : List Nat) : wipe (wipe σ vs) vs = wipe σ vs := by
  refine List.ext_getElem? fun i => ?_
  rw [wipe_get, wipe_get]
  by_cases h : i ∈ vs
  · simp only [h, if_true, Option.map_map]; rfl
  · simp only [h, if_false]
theorem wipe_set {σ : L2.St} {i : Nat} {v : Option V} {vs : List Nat} (h : i ∈ vs) : wipe (σ.set i v) vs = wipe σ vs := by
  refine List.ext_getElem? fun j => ?_
  rw [wipe_get, wipe_get]
  by_cases hj : j ∈ vs
  · simp only [hj, if_true]
    rw [List.getElem?_set]
    split
    · rename_i e
      subst e
      split
      · rename_i hl
        rw [List.getElem?_eq_getElem hl]; rfl
      · rename_i hl
        rw [List.getElem?_eq_none (by omega)]
    · rfl
  · simp only [hj, if_false]
    rw [List.getElem?_set_ne (fun (e : i = j) => hj (by rw [← e]; exact h))]
section
variable {K : PySem.W.Frag} {β β' : Addr → Prop} {ρ ρ' : List Addr} {H H' : Hp} {σd : DEnv} {σ : L2.St} {S S' : Store}
theorem Rel.wipe (r : Rel K β ρ σd S σ H) (vs : List Nat) : Rel K β ρ (wipeD σd vs) S (L2.wipe σ vs) H := by
  refine ⟨by rw [wipeD_length, L2.wipe_length]; exact r.len, fun i d h => ?_, r.nd, r.lenS, r.ob, r.bad⟩
  rw [wipeD_get] at h
  rw [wipe_get]
  by_cases hi : i ∈ vs
  · rw [if_pos hi] at h
    cases q : σd[i]? with
    | none => rw [q] at h; cases h
    | some o => rw [q] at h; cases h
  · rw [if_neg hi] at h ⊢
    exact r.val i d h
theorem Rel.setv (r : Rel K β ρ σd S σ H) {i : Nat} {d : D} {v : V} (rv : RV K β ρ H d v) : Rel K β ρ (σd.set i (some d)) S (σ.set i (some v)) H := by
  refine ⟨by simp [r.len], fun j d' h => ?_, r.nd, r.lenS, r.ob, r.bad⟩
  by_cases hj : i = j
  · subst hj
    rw [List.getElem?_set] at h
    simp only [if_true] at h
    split at h
    · rename_i hl
      have e : d = d' := by injection h with h; injection h
      subst e
      exact ⟨v, by rw [List.getElem?_set_self (by rw [← r.len]; exact hl)], rv⟩
    · cases h
  · rw [List.getElem?_set_ne hj] at h
    rw [List.getElem?_set_ne hj]
    exact r.val j d' h
end

/-! ### targets -/
theorem assignEach_ns {e : Expr} (h : notStar e = true) (es : List Expr) (env : PySem.Env) : assignEach (e :: es) env = (false, assign e env) :: assignEach es env := by
  cases e <;> first | rfl | cases h
theorem assignEach_ok {env : PySem.Env} : ∀ {es : List Expr}, es.all notStar = true → (assignEach es env).length = es.length ∧ (assignEach es env).findIdx? (·.1) = none
  | [], _ => ⟨rfl, rfl⟩
  | e :: es, h => by
    rw [List.all_cons, Bool.and_eq_true] at h
    obtain ⟨h1, h2⟩ := assignEach_ok (env := env) h.2
    rw [assignEach_ns h.1, List.length_cons, List.length_cons, h1, List.findIdx?_cons, h2]
    exact ⟨rfl, rfl⟩
def gT (K : PySem.W.Frag) (tg : Tg) : L2.TG := fun v σ H Q => ∃ β ρ σd S d σd', Rel K β ρ σd S σ H ∧ RV K β ρ H d v ∧ bindT tg d σd = some σd' ∧
  ∀ σ', Rel K β ρ σd' S σ' H → (∀ own, tgIn own tg = true → wipe σ' own = wipe σ own) → Q σ' H
def gTs (K : PySem.W.Frag) (ts : Tg) : L2.TGs := fun vs σ H Q => ∃ β ρ σd S ds σd', Rel K β ρ σd S σ H ∧ RVs K β ρ H ds vs ∧ bindTs ts ds σd = some σd' ∧
  ∀ σ', Rel K β ρ σd' S σ' H → (∀ own, tgIn own ts = true → wipe σ' own = wipe σ own) → Q σ' H
theorem pg_weak {X : Cx} {e : Expr} {t t' : L2.TG} (h : PG X e t) (w : ∀ v σ H Q, t' v σ H Q → t v σ H Q) : PG X e t' := ⟨fun pins s σ H v u Q I r q => h.run pins s σ H v u Q I r (w v σ H Q q)⟩
theorem pgs_weak {X : Cx} {e : List Expr} {t t' : L2.TGs} (h : PGs X e t) (w : ∀ v σ H Q, t' v σ H Q → t v σ H Q) : PGs X e t' := ⟨fun pins s σ H v u Q I r q => h.run pins s σ H v u Q I r (w v σ H Q q)⟩
theorem bindTs_len : ∀ (ts : Tg) (ds : List D) (σ σ' : DEnv) (sc : Scope) (N : List Str) (es : List Expr), bindTs ts ds σ = some σ' → chkTs N sc ts es = true → ds.length = es.length
  | .nil, [], σ, σ', sc, N, es, h, c => by
    cases es with
    | nil => rfl
    | cons e es => simp [chkTs] at c
  | .nil, d :: ds, σ, σ', sc, N, es, h, c => by simp [bindTs] at h
  | .cons t ts, [], σ, σ', sc, N, es, h, c => by simp [bindTs] at h
  | .cons t ts, d :: ds, σ, σ', sc, N, es, h, c => by
    rw [bindTs] at h
    obtain ⟨σ1, h1, h2⟩ := Option.bind_eq_some_iff.mp h
    cases es with
    | nil => simp [chkTs] at c
    | cons e es =>
      rw [chkTs] at c
      simp only [Bool.and_eq_true] at c
      rw [List.length_cons, List.length_cons, bindTs_len ts ds σ1 σ' sc N es h2 c.2]
  | .nm _, _, _, _, _, _, _, h, c => by simp [chkTs] at c
  | .tup _, _, _, _, _, _, _, h, c => by simp [chkTs] at c
theorem chkTs_ns : ∀ (ts : Tg) (sc : Scope) (N : List Str) (es : List Expr), chkTs N sc ts es = true → es.all notStar = true
  | .nil, sc, N, es, c => by
    cases es with
    | nil => rfl
    | cons e es => simp [chkTs] at c
  | .cons t ts, sc, N, es, c => by
    cases es with
    | nil => rfl
    | cons e es =>
      rw [chkTs] at c
      simp only [Bool.and_eq_true] at c
      rw [List.all_cons, c.1.1, chkTs_ns ts sc N es c.2]; rfl
  | .nm _, _, _, _, c => by simp [chkTs] at c
  | .tup _, _, _, _, c => by simp [chkTs] at c
section
variable {bn : List Str} {nm : Nat → Str} {fs : List Nat} {xc : Str → Addr} {cx : Cxt} {N : List Str} {k : Nat} {X : Cx} {W : WX} {sc : Scope}
mutual
theorem pg_chk (ok : Ok bn nm fs xc cx N k X W sc) : ∀ (tg : Tg) (e : Expr), chkT N sc tg e = true → PG X e (gT X.K tg)
  | .nm i, e, c => by
    cases e with
    | Name x p =>
      simp only [chkT] at c
      rw [Bool.and_eq_true] at c
      have hi : X.N[i]? = some x := by rw [ok.hN]; exact of_decide_eq_true c.1
      obtain ⟨hx, hf⟩ := ok.loc x c.2
      refine pg_weak (pg_name ok.nd hi hx hf) fun v σ H Q h => ?_
      obtain ⟨β, ρ, σd, S, d, σd', r, rv, hb, q⟩ := h
      rw [bindT] at hb
      split at hb
      · cases hb
        exact q _ (r.setv rv) fun own ho => wipe_set (by rw [tgIn] at ho; simpa using ho)
      · cases hb
    | _ => simp [chkT] at c
  | .tup ts, e, c => by
    cases e with
    | Tuple es j p =>
      simp only [chkT] at c
      obtain ⟨h1, h2⟩ := assignEach_ok (env := X.env) (chkTs_ns ts sc N es c)
      refine pg_weak (pg_tup ok.calm (pgs_chk ok ts es c) h1 h2) fun v σ H Q h => ?_
      obtain ⟨β, ρ, σd, S, d, σd', r, rv, hb, q⟩ := h
      cases d with
      | tup ds =>
        rw [bindT] at hb
        obtain ⟨a, vs, rfl, e1, e2, e3⟩ := rv.tup_inv
        refine ⟨a, vs, rfl, SqT.of e1, ?_, β, ρ, σd, S, ds, σd', r, e3, hb, fun σ' r' w => q σ' r' fun own ho => w own (by rw [tgIn] at ho; exact ho)⟩
        rw [← e3.length]
        exact bindTs_len ts ds σd σd' sc N es hb c
      | _ => simp [bindT] at hb
    | _ => simp [chkT] at c
  | .nil, e, c => by simp [chkT] at c
  | .cons _ _, e, c => by simp [chkT] at c
theorem pgs_chk (ok : Ok bn nm fs xc cx N k X W sc) : ∀ (ts : Tg) (es : List Expr), chkTs N sc ts es = true → PGs X es (gTs X.K ts)
  | .nil, es, c => by
    cases es with
    | nil =>
      refine pgs_weak pgs_nil fun vs σ H Q h => ?_
      obtain ⟨β, ρ, σd, S, ds, σd', r, rv, hb, q⟩ := h
      cases ds with
      | nil =>
        rw [bindTs] at hb
        cases hb
        exact ⟨rv.nil_inv, q σ r fun _ _ => rfl⟩
      | cons d ds => simp [bindTs] at hb
    | cons e es => simp [chkTs] at c
  | .cons t ts, es, c => by
    cases es with
    | nil => simp [chkTs] at c
    | cons e es =>
      rw [chkTs] at c
      simp only [Bool.and_eq_true] at c
      refine pgs_weak (pgs_cons (pg_chk ok t e c.1.2) (pgs_chk ok ts es c.2) (by rw [assignEach_ns c.1.1]; rfl)) fun vs σ H Q h => ?_
      obtain ⟨β, ρ, σd, S, ds, σd', r, rv, hb, q⟩ := h
      cases ds with
      | nil => simp [bindTs] at hb
      | cons d ds =>
        rw [bindTs] at hb
        obtain ⟨σ1, h1, h2⟩ := Option.bind_eq_some_iff.mp hb
        obtain ⟨v, us, rfl, r1, r2⟩ := rv.cons_inv
        refine ⟨v, us, rfl, β, ρ, σd, S, d, σ1, r, r1, h1, fun σ' r' w => ?_⟩
        refine ⟨β, ρ, σ1, S, ds, σd', r', r2, h2, fun σ'' r'' w' => q σ'' r'' fun own ho => ?_⟩
        rw [tgIn, Bool.and_eq_true] at ho
        exact (w' own ho.2).trans (w own ho.1)
  | .nm _, _, c => by simp [chkTs] at c
  | .tup _, _, c => by simp [chkTs] at c
end
end

/-! ### comprehensions -/
section
variable {K : PySem.W.Frag} {β β' : Addr → Prop} {ρ ρ' : List Addr} {H : Hp}
theorem ImL.less (hb : ∀ b, Bad β' ρ' b → Bad β ρ b) {a : Addr} {vs : List V} (h : ImL K (Bad β ρ) H a vs) : ImL K (Bad β' ρ') H a vs := by
  obtain ⟨z, ⟨h1, h2⟩ | h1⟩ := h
  · exact ⟨z, .inl ⟨h1, fun q => h2 (hb _ q)⟩⟩
  · exact ⟨z, .inr h1⟩
mutual
/-- the same heap, less forbidden, more tracked -/
theorem RV.less (hb : ∀ b, Bad β' ρ' b → Bad β ρ b) (hp : ∀ (i : Nat) (a : Addr), ρ[i]? = some a → ρ'[i]? = some a) : ∀ {d : D} {v : V}, RV K β ρ H d v → RV K β' ρ' H d v
  | _, _, .non => .non
  | _, _, .bl b => .bl b
  | _, _, .int i => .int i
  | _, _, .str x => .str x
  | _, _, .tup h z r => .tup h z (RVs.less hb hp r)
  | _, _, .lst h r => .lst (h.less hb) (RVs.less hb hp r)
  | _, _, .dT h n r => .dT h (fun q => n (hb _ q)) (RKT.less hb hp r)
  | _, _, .dK h n r => .dK h (fun q => n (hb _ q)) (RKK.less hb hp r)
  | _, _, .ref h => .ref (hp _ _ h)
theorem RVs.less (hb : ∀ b, Bad β' ρ' b → Bad β ρ b) (hp : ∀ (i : Nat) (a : Addr), ρ[i]? = some a → ρ'[i]? = some a) : ∀ {ds : List D} {vs : List V}, RVs K β ρ H ds vs → RVs K β' ρ' H ds vs
  | _, _, .nil => .nil
  | _, _, .cons h r => .cons (RV.less hb hp h) (RVs.less hb hp r)
theorem RKT.less (hb : ∀ b, Bad β' ρ' b → Bad β ρ b) (hp : ∀ (i : Nat) (a : Addr), ρ[i]? = some a → ρ'[i]? = some a) : ∀ {ds : List (D × D)} {vs : List (List Key × V)}, RKT K β ρ H ds vs → RKT K β' ρ' H ds vs
  | _, _, .nil => .nil
  | _, _, .cons z h r => .cons z (RV.less hb hp h) (RKT.less hb hp r)
theorem RKK.less (hb : ∀ b, Bad β' ρ' b → Bad β ρ b) (hp : ∀ (i : Nat) (a : Addr), ρ[i]? = some a → ρ'[i]? = some a) : ∀ {ds : List (D × D)} {vs : List (Key × V)}, RKK K β ρ H ds vs → RKK K β' ρ' H ds vs
  | _, _, .nil => .nil
  | _, _, .cons h r => .cons (RV.less hb hp h) (RKK.less hb hp r)
end
theorem RU.less (hb : ∀ b, Bad β' ρ' b → Bad β ρ b) (hp : ∀ (i : Nat) (a : Addr), ρ[i]? = some a → ρ'[i]? = some a) {u : HO} {o : Ob} (h : RU K β ρ H u o) : RU K β' ρ' H u o := by
  cases o with
  | lst ds => obtain ⟨vs, e, z, r⟩ := h; exact ⟨vs, e, z, r.less hb hp⟩
  | dct t kvs =>
    cases t with
    | true => obtain ⟨hk, e, r⟩ := h; exact ⟨hk, e, r.less hb hp⟩
    | false => obtain ⟨hk, e, r⟩ := h; exact ⟨hk, e, r.less hb hp⟩
  | lck o => exact h
theorem RO.less (hb : ∀ b, Bad β' ρ' b → Bad β ρ b) (hp : ∀ (i : Nat) (a : Addr), ρ[i]? = some a → ρ'[i]? = some a) {a : Addr} {o : Ob} (h : RO K β ρ H a o) : RO K β' ρ' H a o := by
  cases o with
  | lck o => obtain ⟨od, u, e1, e2⟩ := h; exact ⟨od, u, e1, e2.less hb hp⟩
  | lst _ => obtain ⟨u, e1, e2⟩ := h; exact ⟨u, e1, e2.less hb hp⟩
  | dct _ _ => obtain ⟨u, e1, e2⟩ := h; exact ⟨u, e1, e2.less hb hp⟩
/-- what is written into a forbidden list concerns no value -/
theorem bad_hr {D : Addr} {us ws : List V} (hb : β D) : (∀ b u, ¬ Bad β ρ b → Rd H b u → Rd (upd H D (.lst ws)) b u ∧ ¬ Bad β ρ b) := fun b u n q => ⟨by
  have hne : b ≠ D := fun e => n (.inl (e ▸ hb))
  rcases q with q | ⟨o, q⟩
  · exact .inl (by rw [upd_ne hne]; exact q)
  · exact .inr ⟨o, by rw [upd_ne hne]; exact q⟩, n⟩
theorem bad_ht {D : Addr} {us ws : List V} (hD : H D = some (.lst us)) : ∀ b vs, H b = some (.tup vs) → (upd H D (.lst ws)) b = some (.tup vs) := fun b vs q => by
  rw [upd_ne (fun e => by rw [e, hD] at q; cases q)]
  exact q
theorem Rel.atBad {σd : DEnv} {σ : L2.St} {S : Store} (r : Rel K β ρ σd S σ H) {D : Addr} {us ws : List V} (hb : β D) (hD : H D = some (.lst us)) : Rel K β ρ σd S σ (upd H D (.lst ws)) := by
  refine r.mono (bad_hr (us := us) hb) (bad_ht hD) (fun a ha => upd_ne fun e => (r.bad D hb).2 (e ▸ ha)) fun a ha => ⟨?_, (r.bad a ha).2⟩
  by_cases e : a = D
  · rw [e, upd_same]; simp
  · rw [upd_ne e]; exact (r.bad a ha).1
end
/-- the evaluator's comprehension, as the library's rule wants it -/
theorem tlc_of {K : PySem.W.Frag} {W W0 : WS} {mi : DEnv → Store → R (List D)} {mt : DEnv → Store → R Bool} {me : DEnv → Store → R D} {tgI : Tg} {vs : List Nat} {m : Bool} (hown : tgIn vs tgI = true) {σ : L2.St} {H : Hp} {Q : VK}
    (h : T K W (fun σ S => (mi σ S).bind fun xs S1 => (noExc (compGo tgI mt me xs (wipeD σ vs) S1)).bind fun ys S3 => mk m (.lst ys) S3) σ H Q) :
    tLc (TI' K W mi) (gT K tgI) (TB K W0 mt) (T K W0 me) vs σ H Q := by
  obtain ⟨β, ρ, σd, S, r, h⟩ := h
  refine ⟨β, ρ, σd, S, r, h.bind.imp fun xs ρ1 S1 H1 k1 r1 h1 hz J wk D hD => ?_⟩
  cases e : compGo tgI mt me xs (wipeD σd vs) S1 with
  | stuck => rw [e] at h1; exact h1.elim
  | exc c S3 => rw [e] at h1; exact h1.elim
  | ok ys S3 =>
    rw [e] at h1
    have nβ : ¬ β D := fun q => (r1.bad D q).1 hD
    have nρ1 : D ∉ ρ1 := fun q => r1.there q hD
    refine ⟨fun i n H' => n = xs.length - i ∧ ∃ ρ2 S2 acc vacc ys', Keep ρ1 H1 ρ2 H' ∧ Rel K (fun a => β a ∨ a = D) ρ2 (wipeD σd vs) S2 (wipe σ vs) H' ∧ H' D = some (.lst vacc) ∧ RVs K (fun a => β a ∨ a = D) ρ2 H' acc vacc ∧ acc.length ≤ i ∧ i ≤ xs.length ∧
      compGo tgI mt me (xs.drop i) (wipeD σd vs) S2 = .ok ys' S3 ∧ acc ++ ys' = ys, ⟨xs.length, by simp, ρ1, S1, [], [], ys, Keep.upd_new ρ1 hD, ?_, upd_same, .nil, by simp, Nat.zero_le _, by simpa using e, by simp⟩, ?_⟩
    · have r2 := (r1.new (o := .lst []) hD).wipe vs
      have rm : Rel K (fun a => β a ∨ a = D) ρ1 (wipeD σd vs) S1 (wipe σ vs) (upd H1 D (.lst [])) := by
        have r0 := r1.wipe vs
        refine r0.mono (β' := fun a => β a ∨ a = D) (fun b u n q => ?_) (fun b us q => by rw [upd_ne (ne_of_none q hD)]; exact q) (fun a ha => upd_ne fun e => nρ1 (e ▸ ha)) fun a ha => ?_
        · have hne : b ≠ D := by rcases q with q | ⟨o, q⟩ <;> exact ne_of_none q hD
          refine ⟨?_, fun z => z.elim (fun y => y.elim (fun w => n (.inl w)) fun w => hne w) fun y => n (.inr y)⟩
          rcases q with q | ⟨o, q⟩
          · exact .inl (by rw [upd_ne hne]; exact q)
          · exact .inr ⟨o, by rw [upd_ne hne]; exact q⟩
        · rcases ha with ha | ha
          · refine ⟨?_, (r1.bad a ha).2⟩
            rw [upd_ne (fun (e : a = D) => nβ (by rw [← e]; exact ha))]
            exact (r1.bad a ha).1
          · rw [ha]
            exact ⟨by rw [upd_same]; simp, nρ1⟩
      exact rm
    · rintro i n H' ⟨rfl, ρ2, S2, acc, vacc, ys', k2, r2, hD2, rv2, hl, hi, ec, ea⟩
      obtain ⟨go, stop, yld⟩ := wk (fun a => β a ∨ a = D) ρ2 H' (fun a q => .inl q) (fun a q n => q.elim (fun y => absurd y n) fun y => y ▸ hD) k2 i
      have nρ2 : D ∉ ρ2 := (r2.bad D (.inr rfl)).2
      by_cases hlt : i < xs.length
      · refine .inr ⟨go hlt, fun H3 => ∃ ρ2 S2 acc vacc ys', Keep ρ1 H1 ρ2 H3 ∧ Rel K (fun a => β a ∨ a = D) ρ2 (wipeD σd vs) S2 (wipe σ vs) H3 ∧ H3 D = some (.lst vacc) ∧ RVs K (fun a => β a ∨ a = D) ρ2 H3 acc vacc ∧ acc.length ≤ i + 1 ∧ i + 1 ≤ xs.length ∧
          compGo tgI mt me (xs.drop (i + 1)) (wipeD σd vs) S2 = .ok ys' S3 ∧ acc ++ ys' = ys, fun H3 w => ⟨xs.length - (i + 1), by omega, rfl, w⟩, fun x H3 y => ?_⟩
        obtain ⟨ky, sy, sk, rx⟩ := yld xs[i] x H3 (List.getElem?_eq_getElem hlt) y
        have r3 : Rel K (fun a => β a ∨ a = D) ρ2 (wipeD σd vs) S2 (wipe σ vs) H3 := r2.step (σd' := σd) (σ' := σ) ky sy
        have hD3 : H3 D = some (.lst vacc) := (sk D (by rw [hD2]; simp)).trans hD2
        have rv3 := rv2.keep ky
        rw [List.drop_eq_getElem_cons hlt, compGo] at ec
        cases eb : bindT tgI xs[i] (wipeD σd vs) with
        | none => simp only [eb] at ec; cases ec
        | some σd2 =>
          simp only [eb] at ec
          refine ⟨_, ρ2, wipeD σd vs, S2, xs[i], σd2, r3, rx, eb, fun σ2 r4 hw => ⟨(hw vs hown).trans (wipe_wipe σ vs), ?_⟩⟩
          refine ⟨_, ρ2, σd2, S2, r4, ?_⟩
          cases et : mt σd2 S2 with
          | stuck => rw [et] at ec; cases ec
          | exc c Sa => rw [et] at ec; cases ec
          | ok b Sa =>
            rw [et] at ec
            intro ρ4 H4 k4 r5
            have r5' := rel_back r3 k4 (rel_sub r5)
            have hD4 : H4 D = some (.lst vacc) := k4.same D _ hD3 nρ2
            have rv4 := rv3.keep k4
            cases b with
            | false =>
              simp only [Bool.false_eq_true, if_false] at ec ⊢
              exact ⟨ρ4, Sa, acc, vacc, ys', (k2.trans ky).trans k4, r5', hD4, rv4, by omega, hlt, ec, ea⟩
            | true =>
              simp only [if_true, R.bind] at ec ⊢
              refine ⟨_, ρ4, σd2, Sa, r5, ?_⟩
              cases ee : me σd2 Sa with
              | stuck => simp only [ee] at ec; cases ec
              | exc c Sb => simp only [ee] at ec; cases ec
              | ok y' Sb =>
                simp only [ee] at ec
                intro ρ5 H5 k5 r6 vy ry
                have nρ4 : D ∉ ρ4 := (r5.bad D (.inr rfl)).2
                have hD5 : H5 D = some (.lst vacc) := k5.same D _ hD4 nρ4
                have rv5 := rv4.keep k5
                have r6' := rel_back r5' k5 (rel_sub r6)
                have k15 : Keep ρ1 H1 ρ5 H5 := ((k2.trans ky).trans k4).trans k5
                cases ef : compGo tgI mt me (xs.drop (i + 1)) (wipeD σd vs) Sb with
                | stuck => simp only [ef] at ec; cases ec
                | exc c Sc => simp only [ef] at ec; cases ec
                | ok zs Sc =>
                  simp only [ef] at ec
                  have e1 : y' :: zs = ys' := by injection ec
                  have e2 : Sc = S3 := by injection ec
                  subst e1 e2
                  have hla := rv5.length
                  refine ⟨vacc, hD5, by omega, ρ5, Sb, acc ++ [y'], vacc ++ [vy], zs, ?_, r6'.atBad (.inr rfl) hD5, upd_same, ?_, by simp; omega, hlt, ef, by rw [← ea, List.append_assoc]; rfl⟩
                  · refine ⟨k15.pre, fun b o q hn => ?_, fun b o u q => ?_, fun b us q => ?_, k15.new⟩
                    · rw [upd_ne (ne_of_none q hD)]; exact k15.same b o q hn
                    · rw [upd_ne (ne_of_none q hD)]; exact k15.frz b o u q
                    · rw [upd_ne (ne_of_none q hD)]; exact k15.tups b us q
                  · have ry' := ry.mono (bad_hr (us := vacc) (ws := vacc ++ [vy]) (H := H5) (ρ := ρ5) (β := fun a => β a ∨ a = D) (.inr rfl)) (bad_ht hD5)
                    exact (rv5.mono (bad_hr (us := vacc) (ws := vacc ++ [vy]) (H := H5) (ρ := ρ5) (β := fun a => β a ∨ a = D) (.inr rfl)) (bad_ht hD5)).append (.cons ry' .nil)
      · have hi' : i = xs.length := by omega
        refine .inl ⟨stop (by omega), ?_⟩
        rw [hi', List.drop_length, compGo] at ec
        have e1 : [] = ys' := by injection ec
        have e2 : S2 = S3 := by injection ec
        subst e1 e2
        rw [List.append_nil] at ea
        subst ea
        have hla := rv2.length
        have zl : vacc.length ≤ sizeLine := by omega
        cases m with
        | true =>
          have hb : ∀ b, Bad β (ρ2 ++ [D]) b → Bad (fun a => β a ∨ a = D) ρ2 b := fun b q => q.elim (fun y => .inl (.inl y)) fun y => (List.mem_append.mp y).elim .inr fun z => .inl (.inr (List.mem_singleton.mp z))
          have hp : ∀ (i : Nat) (a : Addr), ρ2[i]? = some a → (ρ2 ++ [D])[i]? = some a := fun i a q => by rw [List.getElem?_append_left (List.getElem?_eq_some_iff.mp q).1]; exact q
          have kk : Keep ρ1 H1 (ρ2 ++ [D]) H' := by
            refine ⟨?_, k2.same, k2.frz, k2.tups, fun b q n => ?_⟩
            · obtain ⟨l, el⟩ := k2.pre
              exact ⟨l ++ [D], by rw [el, List.append_assoc]⟩
            · rcases List.mem_append.mp q with q | q
              · exact k2.new b q n
              · rw [List.mem_singleton.mp q]; exact hD
          refine h1 (ρ2 ++ [D]) H' kk ⟨r1.len, fun j d q => ?_, ?_, ?_, fun j a o q1 q2 => ?_, fun a q => ⟨?_, fun z => ?_⟩⟩ _ (.ref ?_)
          · obtain ⟨v, e1, e2⟩ := r1.val j d q
            exact ⟨v, e1, e2.keep kk⟩
          · rw [List.nodup_append]
            refine ⟨r2.nd, by simp, fun a ha b hb' => ?_⟩
            rw [List.mem_singleton.mp hb']
            exact fun e => nρ2 (e ▸ ha)
          · simp [r2.lenS]
          · by_cases hj : j < ρ2.length
            · rw [List.getElem?_append_left hj] at q1
              rw [List.getElem?_append_left (by rw [← r2.lenS]; exact hj)] at q2
              exact (r2.ob j a o q1 q2).less hb hp
            · have hj' : j = ρ2.length := by
                have := (List.getElem?_eq_some_iff.mp q1).1
                simp at this
                omega
              subst hj'
              rw [List.getElem?_append_right (Nat.le_refl _)] at q1
              rw [r2.lenS, List.getElem?_append_right (Nat.le_refl _)] at q2
              simp at q1 q2
              subst q1 q2
              exact RO.of (o := .lst acc) hD2 ⟨vacc, rfl, zl, rv2.less hb hp⟩
          · exact (r2.bad a (.inl q)).1
          · rcases List.mem_append.mp z with z | z
            · exact (r2.bad a (.inl q)).2 z
            · exact nβ (List.mem_singleton.mp z ▸ q)
          · rw [← r2.lenS, List.getElem?_append_right (Nat.le_refl _)]
            simp
        | false =>
          have hb : ∀ b, Bad β ρ2 b → Bad (fun a => β a ∨ a = D) ρ2 b := fun b q => q.elim (fun y => .inl (.inl y)) .inr
          refine h1 ρ2 H' k2 ⟨r1.len, fun j d q => ?_, r2.nd, r2.lenS, fun j a o q1 q2 => (r2.ob j a o q1 q2).less hb fun _ _ z => z, fun a q => r2.bad a (.inl q)⟩ _ (.lst ⟨zl, .inl ⟨.inl hD2, fun z => z.elim nβ nρ2⟩⟩ (rv2.less hb fun _ _ z => z))
          obtain ⟨v, e1, e2⟩ := r1.val j d q
          exact ⟨v, e1, e2.keep k2⟩
end DD

namespace DD
open PySem PySem.Spec PyProof.Rows L2

/-! ### statements' wishes -/
def PstS (K : PySem.W.Frag) (β : Addr → Prop) (ρ : List Addr) (H : Hp) (W : WS) (r : R (Fl × DEnv)) (D : Ends) : Prop :=
  match r with
  | .ok (.nx, σd') S' => ∀ ρ' H' σ', Keep ρ H ρ' H' → Rel K β ρ' σd' S' σ' H' → D.nx σ' H'
  | .ok (.rt d, _) S' => ∀ ρ' H' v, Keep ρ H ρ' H' → Rel K β ρ' [] S' [] H' → RV K β ρ' H' d v → D.rt v H'
  | .ok (.ex c, σd') S' => ∀ ρ' H' σ', Keep ρ H ρ' H' → Rel K β ρ' σd' S' σ' H' → W c σ' H'
  | .exc _ _ => False
  | .stuck => False
def TSs (K : PySem.W.Frag) (W : WS) (m : DEnv → Store → R (Fl × DEnv)) : L2.TS := fun D σ H => ∃ β ρ σd S, Rel K β ρ σd S σ H ∧ PstS K β ρ H W (m σd S) D
section
variable {K : PySem.W.Frag} {β : Addr → Prop} {ρ ρ' : List Addr} {H H' : Hp} {W : WS}
theorem PstS.shift {r : R (Fl × DEnv)} {D : Ends} (k : Keep ρ H ρ' H') (h : PstS K β ρ H W r D) : PstS K β ρ' H' W r D := by
  cases r with
  | ok p S' =>
    obtain ⟨f, σd'⟩ := p
    cases f with
    | nx => exact fun ρ2 H2 σ2 k2 r2 => h ρ2 H2 σ2 (k.trans k2) r2
    | rt d => exact fun ρ2 H2 v k2 r2 => h ρ2 H2 v (k.trans k2) r2
    | ex c => exact fun ρ2 H2 σ2 k2 r2 => h ρ2 H2 σ2 (k.trans k2) r2
  | exc c S' => exact h
  | stuck => exact h
/-- an expression within a statement -/
theorem PstS.lift {α : Type} {r : R α} {σd : DEnv} {S : Store} {σ : L2.St} {f : α → Store → R (Fl × DEnv)} {D : Ends} (h : PstS K β ρ H W (r.lift σd f) D) : Pst K β ρ σd σ H W r fun a ρ1 S1 H1 => PstS K β ρ1 H1 W (f a S1) D := by
  cases r with
  | ok a S' => exact fun ρ2 H2 k2 r2 => PstS.shift k2 h
  | exc c S' => exact fun ρ2 H2 k2 r2 => h ρ2 H2 σ k2 r2
  | stuck => exact h
theorem PstS.andThen {r : R (Fl × DEnv)} {f : DEnv → Store → R (Fl × DEnv)} {D : Ends} (h : PstS K β ρ H W (r.andThen f) D) (t : L2.TS) (ht : ∀ σd' S' ρ' H' σ', r = .ok (.nx, σd') S' → Keep ρ H ρ' H' → Rel K β ρ' σd' S' σ' H' → PstS K β ρ' H' W (f σd' S') D → t D σ' H') : PstS K β ρ H W r { D with nx := t D } := by
  cases r with
  | ok p S' =>
    obtain ⟨g, σd'⟩ := p
    cases g with
    | nx => exact fun ρ2 H2 σ2 k2 r2 => ht σd' S' ρ2 H2 σ2 rfl k2 r2 (PstS.shift k2 h)
    | rt d => exact h
    | ex c => exact h
  | exc c S' => exact h
  | stuck => exact h
end

/-! ### locks -/
section
variable {K : PySem.W.Frag} {β : Addr → Prop} {ρ ρ' : List Addr} {H H' : Hp} {σd : DEnv} {σ : L2.St} {S S' : Store}
/-- one tracked address gets another record that reads alike -/
theorem RV.swap {a : Addr} (ha : a ∈ ρ) {w : HO} (hn : ∀ vs, H a ≠ some (.tup vs)) {d : D} {v : V} (h : RV K β ρ H d v) : RV K β ρ (upd H a w) d v :=
  h.mono (fun b u n q => ⟨by
    have hne : b ≠ a := fun e => n (.inr (e ▸ ha))
    rcases q with q | ⟨o, q⟩
    · exact .inl (by rw [upd_ne hne]; exact q)
    · exact .inr ⟨o, by rw [upd_ne hne]; exact q⟩, n⟩) fun b vs q => by
      rw [upd_ne (fun e => hn vs (by rw [← e]; exact q))]
      exact q
theorem RU.swap {a : Addr} (ha : a ∈ ρ) {w : HO} (hn : ∀ vs, H a ≠ some (.tup vs)) {u : HO} {o : Ob} (h : RU K β ρ H u o) : RU K β ρ (upd H a w) u o :=
  h.mono (fun b u n q => ⟨by
    have hne : b ≠ a := fun e => n (.inr (e ▸ ha))
    rcases q with q | ⟨o, q⟩
    · exact .inl (by rw [upd_ne hne]; exact q)
    · exact .inr ⟨o, by rw [upd_ne hne]; exact q⟩, n⟩) fun b vs q => by
      rw [upd_ne (fun e => hn vs (by rw [← e]; exact q))]
      exact q
theorem Rel.swap (r : Rel K β ρ σd S σ H) {i : Nat} {a : Addr} {w : HO} {o : Ob} (hi : ρ[i]? = some a) (hn : ∀ vs, H a ≠ some (.tup vs)) (ho : RO K β ρ (upd H a w) a o) : Rel K β ρ σd (S.set i o) σ (upd H a w) := by
  have ha := List.mem_of_getElem? hi
  have hil : i < ρ.length := (List.getElem?_eq_some_iff.mp hi).1
  refine ⟨r.len, fun j d h => ?_, r.nd, by simp [r.lenS], fun j b o' h1 h2 => ?_, fun b h => ⟨?_, (r.bad b h).2⟩⟩
  · obtain ⟨v, e, q⟩ := r.val j d h
    exact ⟨v, e, q.swap ha hn⟩
  · by_cases hj : j = i
    · subst hj
      rw [hi] at h1
      cases h1
      rw [List.getElem?_set_self (by rw [← r.lenS]; exact hil)] at h2
      cases h2
      exact ho
    · rw [List.getElem?_set_ne (Ne.symm hj)] at h2
      have q := r.ob j b o' h1 h2
      have hne : b ≠ a := fun e => by
        subst e
        obtain ⟨l1, e1⟩ := List.getElem?_eq_some_iff.mp hi
        obtain ⟨l2, e2⟩ := List.getElem?_eq_some_iff.mp h1
        exact hj ((List.getElem_inj r.nd).mp (e2.trans e1.symm))
      cases o' with
      | lck o => obtain ⟨od, w', e1, e2⟩ := q; exact ⟨od, w', by rw [upd_ne hne]; exact e1, e2.swap ha hn⟩
      | lst _ => obtain ⟨w', e1, e2⟩ := q; exact ⟨w', by rw [upd_ne hne]; exact e1, e2.swap ha hn⟩
      | dct _ _ => obtain ⟨w', e1, e2⟩ := q; exact ⟨w', by rw [upd_ne hne]; exact e1, e2.swap ha hn⟩
  · rw [upd_ne (show b ≠ a from fun e => (r.bad b h).2 (by rw [e]; exact ha))]
    exact (r.bad b h).1
theorem Ob.inner_open {o : Ob} (h : ∀ o', o ≠ .lck o') : o.inner = o := by
  cases o with
  | lck o => exact absurd rfl (h o)
  | lst _ => rfl
  | dct _ _ => rfl
theorem Rel.lock (r : Rel K β ρ σd S σ H) {i : Nat} {a : Addr} {u : HO} {o : Ob} (hi : ρ[i]? = some a) (hu : H a = some u) (ru : RU K β ρ H u o) (hn : ∀ vs, H a ≠ some (.tup vs)) (hopen : ∀ o', o ≠ .lck o') (od : Obj) : Rel K β ρ σd (S.set i (.lck o)) σ (upd H a (.frz od u)) := by
  refine r.swap hi hn ⟨od, u, upd_same, ?_⟩
  rw [Ob.inner_open hopen]
  exact ru.swap (List.mem_of_getElem? hi) hn
/-- all from the lock on, seen from ahead of the lock -/
theorem Keep.unlock {a : Addr} {u : HO} {od : Obj} (ha : a ∈ ρ) (hf : ∀ o w, H a ≠ some (.frz o w)) (ht : ∀ vs, H a ≠ some (.tup vs)) (k : Keep ρ (upd H a (.frz od u)) ρ' H') : Keep ρ H ρ' (upd H' a u) := by
  refine ⟨k.pre, fun b o h n => ?_, fun b o w h => ?_, fun b vs h => ?_, fun b h1 h2 => ?_⟩
  · have hne : b ≠ a := fun e => n (e ▸ ha)
    rw [upd_ne hne]
    exact k.same b o (by rw [upd_ne hne]; exact h) n
  · have hne : b ≠ a := fun e => hf o w (by rw [← e]; exact h)
    rw [upd_ne hne]
    exact k.frz b o w (by rw [upd_ne hne]; exact h)
  · have hne : b ≠ a := fun e => ht vs (by rw [← e]; exact h)
    rw [upd_ne hne]
    exact k.tups b vs (by rw [upd_ne hne]; exact h)
  · have := k.new b h1 h2
    have hne : b ≠ a := fun e => h2 (e ▸ ha)
    rw [upd_ne hne] at this
    exact this
theorem RU.mut {u : HO} {o : Ob} (h : RU K β ρ H u o) : Mut (some u) := by
  cases o with
  | lst ds => obtain ⟨vs, e, _⟩ := h; subst e; trivial
  | dct t kvs =>
    cases t with
    | true => obtain ⟨hk, e, _⟩ := h; subst e; trivial
    | false => obtain ⟨hk, e, _⟩ := h; subst e; trivial
  | lck o => exact h.elim
end
/-- what locks is a variable's object -/
def LockIs (lk : DEnv → Option Nat) : Prop := ∀ σ i, lk σ = some i → ∃ v : Nat, σ[v]? = some (some (.ref i))
theorem lockIs_of (e : E) : LockIs (lockOf e) := fun σ i h => by
  unfold lockOf at h
  split at h
  · split at h
    · rename_i j q
      cases h
      exact ⟨_, q⟩
    · cases h
  · split at h
    · rename_i j q
      cases h
      exact ⟨_, q⟩
    · cases h
  · cases h
theorem pe_alt {X : Cx} {e : Expr} {t t' : L2.TE} (h : PE X e t) (h' : PE X e t') : PE X e (fun σ H Q => t σ H Q ∨ t' σ H Q) := ⟨fun pins s σ H Q I q => q.elim (h.run pins s σ H Q I) (h'.run pins s σ H Q I)⟩
theorem pe_lockT {X : Cx} {W : WS} {e : Expr} {lk : DEnv → Option Nat} (hl : LockIs lk) {f : DEnv → Store → R D} (h : PE X e (T X.K W f)) : PE X e (T X.K W fun σ S => lockRun (fun _ => true) (lk σ) S (f σ)) := by
  refine pe_weak (pe_alt h (pe_lock h)) fun σ H Q hq => ?_
  obtain ⟨β, ρ, σd, S, r, hq⟩ := hq
  dsimp only at hq
  cases el : lk σd with
  | none => rw [el] at hq; exact .inl ⟨β, ρ, σd, S, r, hq⟩
  | some i =>
    rw [el] at hq
    obtain ⟨v, ev⟩ := hl σd i el
    obtain ⟨x, ex, rx⟩ := r.val v _ ev
    have core : ∀ o : Ob, (∀ o', o ≠ .lck o') → S[i]? = some o → Pst X.K β ρ σd σ H W (lockEnd (fun _ => true) (f σd (S.set i (.lck o))) i o) (ToV X.K β Q) → tLockE (T X.K W f) σ H Q := fun o ho eo hq => by
      obtain ⟨a, u, rfl, hi, hu, ru, hf, ht⟩ := rx.open r eo ho
      refine ⟨a, u, hu, ru.mut, fun od => ⟨β, ρ, σd, S.set i (.lck o), r.lock hi hu ru ht ho od, ?_⟩⟩
      cases ef : f σd (S.set i (.lck o)) with
      | stuck => rw [ef] at hq; exact hq.elim
      | exc c S' => rw [ef] at hq; exact hq.elim
      | ok d S' =>
        rw [ef] at hq
        intro ρ' H' k r' v rv
        have hd : H' a = some (.frz od u) := k.frz a od u upd_same
        have nt : ∀ vs, H' a ≠ some (.tup vs) := fun vs z => by rw [hd] at z; cases z
        have k' : Keep ρ H ρ' (upd H' a u) := k.unlock (List.mem_of_getElem? hi) hf ht
        exact ⟨hd, hq ρ' (upd H' a u) k' (r'.swap (k.get hi) nt (RO.of upd_same (ru.keep k'))) v (rv.swap (List.mem_of_getElem? (k.get hi)) nt)⟩
    unfold lockRun at hq
    cases eo : S[i]? with
    | none => simp only [eo] at hq; exact .inl ⟨β, ρ, σd, S, r, hq⟩
    | some o =>
      simp only [eo] at hq
      cases o with
      | lck o => exact .inl ⟨β, ρ, σd, S, r, hq⟩
      | lst xs => exact .inr (core (.lst xs) (fun _ z => nomatch z) eo hq)
      | dct t kvs => exact .inr (core (.dct t kvs) (fun _ z => nomatch z) eo hq)
theorem ps_or {X : Cx} {e : Stmt} {t t' : L2.TS} (h : PS X e t) (h' : PS X e t') : PS X e (fun D σ H => t D σ H ∨ t' D σ H) := ⟨fun pins s σ H D I q => q.elim (h.run pins s σ H D I) (h'.run pins s σ H D I)⟩
theorem ps_lockT {X : Cx} {W : WS} {e : Stmt} {lk : DEnv → Option Nat} (hl : LockIs lk) {f : DEnv → Store → R (Fl × DEnv)} (h : PS X e (TSs X.K W f)) : PS X e (TSs X.K W fun σ S => lockRun noEx (lk σ) S (f σ)) := by
  refine ps_weak (ps_or h (ps_lock h)) fun D σ H hq => ?_
  obtain ⟨β, ρ, σd, S, r, hq⟩ := hq
  dsimp only at hq
  cases el : lk σd with
  | none => rw [el] at hq; exact .inl ⟨β, ρ, σd, S, r, hq⟩
  | some i =>
    rw [el] at hq
    obtain ⟨v, ev⟩ := hl σd i el
    obtain ⟨x, ex, rx⟩ := r.val v _ ev
    have core : ∀ o : Ob, (∀ o', o ≠ .lck o') → S[i]? = some o → PstS X.K β ρ H W (lockEnd noEx (f σd (S.set i (.lck o))) i o) D → tLock (TSs X.K W f) D σ H := fun o ho eo hq => by
      obtain ⟨a, u, rfl, hi, hu, ru, hf, ht⟩ := rx.open r eo ho
      refine ⟨a, u, hu, ru.mut, fun od => ⟨β, ρ, σd, S.set i (.lck o), r.lock hi hu ru ht ho od, ?_⟩⟩
      have fin : ∀ {ρ' H'}, Keep ρ (upd H a (.frz od u)) ρ' H' → ∀ {σd' S' σ'}, Rel X.K β ρ' σd' S' σ' H' → H' a = some (.frz od u) ∧ Keep ρ H ρ' (upd H' a u) ∧ Rel X.K β ρ' σd' (S'.set i o) σ' (upd H' a u) ∧ ∀ vs, H' a ≠ some (.tup vs) := fun {ρ' H'} k {σd' S' σ'} r' => by
        have hd : H' a = some (.frz od u) := k.frz a od u upd_same
        have nt : ∀ vs, H' a ≠ some (.tup vs) := fun vs z => by rw [hd] at z; cases z
        have k' : Keep ρ H ρ' (upd H' a u) := k.unlock (List.mem_of_getElem? hi) hf ht
        exact ⟨hd, k', r'.swap (k.get hi) nt (RO.of upd_same (ru.keep k')), nt⟩
      cases ef : f σd (S.set i (.lck o)) with
      | stuck => rw [ef] at hq; exact hq.elim
      | exc c S' => rw [ef] at hq; exact hq.elim
      | ok p S' =>
        rw [ef] at hq
        obtain ⟨g, σd'⟩ := p
        cases g with
        | nx =>
          intro ρ' H' σ' k r'
          obtain ⟨hd, k', r2, nt⟩ := fin k r'
          exact ⟨hd, hq ρ' _ σ' k' r2⟩
        | rt d =>
          intro ρ' H' v k r' rv
          obtain ⟨hd, k', r2, nt⟩ := fin k r'
          exact ⟨hd, hq ρ' _ v k' r2 (rv.swap (List.mem_of_getElem? (k.get hi)) nt)⟩
        | ex c => exact hq.elim
    unfold lockRun at hq
    cases eo : S[i]? with
    | none => simp only [eo] at hq; exact .inl ⟨β, ρ, σd, S, r, hq⟩
    | some o =>
      simp only [eo] at hq
      cases o with
      | lck o => exact .inl ⟨β, ρ, σd, S, r, hq⟩
      | lst xs => exact .inr (core (.lst xs) (fun _ z => nomatch z) eo hq)
      | dct t kvs => exact .inr (core (.dct t kvs) (fun _ z => nomatch z) eo hq)
end DD

namespace DD
open PySem PySem.Spec PyProof.Rows L2

def toB (d : D) (S : Store) : R Bool := match d with
  | .bl b => .ok b S
  | _ => .stuck
section
variable {K : PySem.W.Frag} {W : WS} {σ : L2.St} {H : Hp}
theorem T.op1 {ma : DEnv → Store → R D} {f : D → Store → R D} {Q : VK} (h : T K W (fun σ S => (ma σ S).bind f) σ H Q) :
    T K W ma σ H fun vx H1 => ∃ β ρ σd S x, Rel K β ρ σd S σ H1 ∧ RV K β ρ H1 x vx ∧ Pst K β ρ σd σ H1 W (f x S) (ToV K β Q) := by
  obtain ⟨β, ρ, σd, S, r, h⟩ := h
  exact ⟨β, ρ, σd, S, r, h.bind.imp fun x ρ1 S1 H1 k r1 h1 v rv => ⟨β, ρ1, σd, S1, x, r1, rv, h1⟩⟩
theorem T.op2 {ma mb : DEnv → Store → R D} {g : Store → D → D → R D} {r : R2} {Q : VK} (h : T K W (fun σ S => (ma σ S).bind fun x S1 => (mb σ S1).bind fun y S2 => g S2 x y) σ H Q)
    (hr : ∀ (β : Addr → Prop) (ρ : List Addr) (σd : DEnv) (S : Store) (σ : L2.St) (H : Hp) (x y : D) (vx vy : V) (Q : VK), Rel K β ρ σd S σ H → RV K β ρ H x vx → RV K β ρ H y vy → Pst K β ρ σd σ H W (g S x y) (ToV K β Q) → r vx vy H Q) :
    tOp r (T K W ma) (T K W mb) σ H Q := by
  obtain ⟨β, ρ, σd, S, r, h⟩ := h
  exact ⟨β, ρ, σd, S, r, h.bind.imp fun x ρ1 S1 H1 k r1 h1 v rv => ⟨β, ρ1, σd, S1, r1, h1.bind.imp fun y ρ2 S2 H2 k2 r2 h2 u ru => hr β ρ2 σd S2 σ H2 x y v u Q r2 (rv.keep k2) ru h2⟩⟩
theorem TB.val {m : DEnv → Store → R D} {Q : Bool → Hp → Prop} (h : TB K W (fun σ S => (m σ S).bind toB) σ H Q) : T K W m σ H fun x H1 => ∃ c, x = .bl c ∧ Q c H1 := by
  obtain ⟨β, ρ, σd, S, r, h⟩ := h
  refine ⟨β, ρ, σd, S, r, h.bind.imp fun x ρ1 S1 H1 k r1 h1 v rv => ?_⟩
  cases x with
  | bl b => exact ⟨b, rv.bl_inv, h1.here r1⟩
  | _ => exact h1.elim
theorem TV.not {ma : DEnv → Store → R D} {Q : VK} (h : T K W (fun σ S => (ma σ S).bind fun x S1 => match x with
    | .bl b => .ok (.bl (!b)) S1
    | _ => .stuck) σ H Q) : tNotV (T K W ma) σ H Q := by
  obtain ⟨β, ρ, σd, S, r, h⟩ := h
  refine ⟨β, ρ, σd, S, r, h.bind.imp fun x ρ1 S1 H1 k r1 h1 v rv => ?_⟩
  cases x with
  | bl b => exact ⟨b, rv.bl_inv, h1.val r1 (.bl _)⟩
  | _ => exact h1.elim
theorem TB.not {ma : DEnv → Store → R D} {Q : Bool → Hp → Prop} (h : TB K W (fun σ S => ((ma σ S).bind fun x S1 => match x with
    | .bl b => .ok (.bl (!b)) S1
    | _ => .stuck).bind toB) σ H Q) : tNot (TB K W fun σ S => (ma σ S).bind toB) σ H Q := by
  obtain ⟨β, ρ, σd, S, r, h⟩ := h
  refine ⟨β, ρ, σd, S, r, ?_⟩
  dsimp only at h ⊢
  cases e : ma σd S with
  | stuck => rw [e] at h; exact h.elim
  | exc c S1 => rw [e] at h; exact h
  | ok x S1 =>
    rw [e] at h
    cases x with
    | bl b => exact h
    | _ => exact h.elim
theorem TV.and {ma mb : DEnv → Store → R D} {Q : VK} (h : T K W (fun σ S => (ma σ S).bind fun x S1 => match x with
    | .bl true => mb σ S1
    | .bl false => .ok (.bl false) S1
    | _ => .stuck) σ H Q) : tAndV (T K W ma) (T K W mb) σ H Q := by
  obtain ⟨β, ρ, σd, S, r, h⟩ := h
  refine ⟨β, ρ, σd, S, r, h.bind.imp fun x ρ1 S1 H1 k r1 h1 v rv => ?_⟩
  cases x with
  | bl b =>
    refine ⟨b, rv.bl_inv, ?_⟩
    cases b with
    | true => exact ⟨β, ρ1, σd, S1, r1, h1⟩
    | false => exact h1.val r1 (.bl _)
  | _ => exact h1.elim
theorem TV.or {ma mb : DEnv → Store → R D} {Q : VK} (h : T K W (fun σ S => (ma σ S).bind fun x S1 => match x with
    | .bl true => .ok (.bl true) S1
    | .bl false => mb σ S1
    | _ => .stuck) σ H Q) : tOrV (T K W ma) (T K W mb) σ H Q := by
  obtain ⟨β, ρ, σd, S, r, h⟩ := h
  refine ⟨β, ρ, σd, S, r, h.bind.imp fun x ρ1 S1 H1 k r1 h1 v rv => ?_⟩
  cases x with
  | bl b =>
    refine ⟨b, rv.bl_inv, ?_⟩
    cases b with
    | false => exact ⟨β, ρ1, σd, S1, r1, h1⟩
    | true => exact h1.val r1 (.bl _)
  | _ => exact h1.elim
/-- a test first: what follows it -/
theorem TB.first {α : Type} {ma : DEnv → Store → R D} {f : Bool → DEnv → Store → R α} {β : Addr → Prop} {ρ : List Addr} {σd : DEnv} {S : Store} {Φ : α → List Addr → Store → Hp → Prop} (r : Rel K β ρ σd S σ H)
    (h : Pst K β ρ σd σ H W ((ma σd S).bind fun x S1 => match x with
      | .bl true => f true σd S1
      | .bl false => f false σd S1
      | _ => .stuck) Φ) : Pst K β ρ σd σ H W ((ma σd S).bind toB) fun b ρ1 S1 H1 => Rel K β ρ1 σd S1 σ H1 ∧ Pst K β ρ1 σd σ H1 W (f b σd S1) Φ := by
  cases e : ma σd S with
  | stuck => rw [e] at h; exact h.elim
  | exc c S1 => rw [e] at h; exact h
  | ok x S1 =>
    rw [e] at h
    cases x with
    | bl b =>
      cases b with
      | true => exact fun ρ1 H1 k r1 => ⟨r1, Pst.shift k h⟩
      | false => exact fun ρ1 H1 k r1 => ⟨r1, Pst.shift k h⟩
    | _ => exact h.elim
theorem bind_assoc {α γ δ : Type} (r : R α) (f : α → Store → R γ) (g : γ → Store → R δ) : (r.bind f).bind g = r.bind fun a S => (f a S).bind g := by
  cases r <;> rfl
theorem TB.and {ma mb : DEnv → Store → R D} {Q : Bool → Hp → Prop} (h : TB K W (fun σ S => ((ma σ S).bind fun x S1 => match x with
    | .bl true => mb σ S1
    | .bl false => .ok (.bl false) S1
    | _ => .stuck).bind toB) σ H Q) : tAnd (TB K W fun σ S => (ma σ S).bind toB) (TB K W fun σ S => (mb σ S).bind toB) σ H Q := by
  obtain ⟨β, ρ, σd, S, r, h⟩ := h
  refine ⟨β, ρ, σd, S, r, ?_⟩
  dsimp only at h ⊢
  rw [bind_assoc] at h
  cases e : ma σd S with
  | stuck => rw [e] at h; exact h.elim
  | exc c S1 => rw [e] at h; exact h
  | ok x S1 =>
    rw [e] at h
    cases x with
    | bl b =>
      cases b with
      | true => exact fun ρ1 H1 k r1 => ⟨β, ρ1, σd, S1, r1, Pst.shift k h⟩
      | false => exact fun ρ1 H1 k r1 => h ρ1 H1 k r1
    | _ => exact h.elim
theorem TB.or {ma mb : DEnv → Store → R D} {Q : Bool → Hp → Prop} (h : TB K W (fun σ S => ((ma σ S).bind fun x S1 => match x with
    | .bl true => .ok (.bl true) S1
    | .bl false => mb σ S1
    | _ => .stuck).bind toB) σ H Q) : tOr (TB K W fun σ S => (ma σ S).bind toB) (TB K W fun σ S => (mb σ S).bind toB) σ H Q := by
  obtain ⟨β, ρ, σd, S, r, h⟩ := h
  refine ⟨β, ρ, σd, S, r, ?_⟩
  dsimp only at h ⊢
  rw [bind_assoc] at h
  cases e : ma σd S with
  | stuck => rw [e] at h; exact h.elim
  | exc c S1 => rw [e] at h; exact h
  | ok x S1 =>
    rw [e] at h
    cases x with
    | bl b =>
      cases b with
      | false => exact fun ρ1 H1 k r1 => ⟨β, ρ1, σd, S1, r1, Pst.shift k h⟩
      | true => exact fun ρ1 H1 k r1 => h ρ1 H1 k r1
    | _ => exact h.elim
end

/-! ### built-ins by name -/
theorem vals2 {x y : V} {us : List Value} (r : Vals [x, y] us) : ∃ u w, us = [u, w] ∧ RelV x u ∧ RelV y w := by
  cases r with
  | cons a b =>
    cases b with
    | cons c d =>
      cases d
      exact ⟨_, _, rfl, a, c⟩
/-- how a built-in is called -/
theorem pe_bcall {X : Cx} {r : List V → Hp → VK → Prop} {f : Value} {x : Str} {e : Expr} {es : List Expr} {t : L2.TA} {p pos : Pos} (hf : (∃ id, f = .builtin id) ∨ ∃ T, f = .type T) (hc : CallR X f r) (hg : Gl X x) (hm : X.mg x = none) (hv : bootBuiltins x = some f)
    (ha : PA X (e :: es) t) (hn : x ≠ "__name__") (hdb : (x == ("__debug__" : Str)) = false) (he : starEach (e :: es) X.env = (false, eval e X.env) :: starEach es X.env) (hpl : (backTo pos (starEach es X.env)).any (·.1) = false) : PE X (.Call (.Name x p) (e :: es) [] pos) (tCB r t) := by
  rcases hf with ⟨id, rfl⟩ | ⟨T, rfl⟩
  · exact pe_callB hc hg hm hv ha hn hdb he hpl
  · exact pe_callTy hc hg hm hv ha hn hdb he hpl
def Pr.served (p : Pr) : Bool := p.ok
theorem boot_pr : ∀ p : Pr, bootBuiltins p.name = some p.val ∧ p.name ≠ "__name__" ∧ (p.name == ("__debug__" : Str)) = false ∧ ((∃ id, p.val = .builtin id) ∨ ∃ T, p.val = .type T) := by
  intro p
  cases p with
  | isinst T =>
    have e : bootBuiltins ("isinstance" : Str) = some (.builtin "isinstance") := by decide +kernel
    have e2 : ("isinstance" : Str) ≠ "__name__" := by decide
    have e3 : (("isinstance" : Str) == ("__debug__" : Str)) = false := by decide
    exact ⟨e, e2, e3, .inl ⟨"isinstance", rfl⟩⟩
  | _ => first
    | exact ⟨by decide +kernel, by decide, by decide, .inl ⟨_, rfl⟩⟩
    | exact ⟨by decide +kernel, by decide, by decide, .inr ⟨_, rfl⟩⟩
theorem boot_ty : ∀ T : Ty, bootBuiltins (Str.ofString T.name) = some (.type T.name) ∧ Str.ofString T.name ≠ "__name__" ∧ (Str.ofString T.name == ("__debug__" : Str)) = false := by
  intro T
  cases T
  all_goals exact ⟨by decide +kernel, by decide, by decide⟩
theorem pr_ok {X : Cx} (hc : X.calm = true) (m : Bool) : ∀ p : Pr, p.ok = true → OpN X p.val (prim p m)
  | .len, _ => pr_len m
  | .tuple, _ => pr_tuple m
  | .list, _ => pr_list m
  | .str, _ => pr_str m
  | .int, _ => pr_int m
  | .min2, _ => pr_min2 hc m
  | .max2, _ => pr_max2 hc m
  | .sumL, _ => pr_sum hc m
  | .abs, _ => pr_abs m
  | .sorted, h => by cases h
  | .minL, h => by cases h
  | .maxL, h => by cases h
  | .dict, h => by cases h
  | .isinst _, h => by cases h
def Me.typ : Me → String
  | .get1 => "dict" | .get2 => "dict" | .setdef => "dict" | .popD => "dict" | .popD2 => "dict" | _ => "list"
def Me.id : Me → String
  | .get1 => "dict.get" | .get2 => "dict.get" | .setdef => "dict.setdefault" | .popD => "dict.pop" | .popD2 => "dict.pop"
  | .append => "list.append" | .clear => "list.clear" | .extend => "list.extend" | .pop0 => "list.pop" | .popAt => "list.pop"
theorem me_slots : ∀ me : Me, PlainAttrs me.typ ∧ Slot me.typ me.name me.id ∧ typeOf (.builtin me.id) = pure (.type "method_descriptor") := by
  intro me
  cases me
  · exact ⟨PySem.F.plainAttrs_dict, PySem.F.slot_dict_get, rfl⟩
  · exact ⟨PySem.F.plainAttrs_dict, PySem.F.slot_dict_get, rfl⟩
  · exact ⟨PySem.F.plainAttrs_dict, PySem.F.slot_dict_setdefault, rfl⟩
  · exact ⟨PySem.F.plainAttrs_list, PySem.F.slot_list_append, rfl⟩
  · exact ⟨PySem.F.plainAttrs_list, PySem.F.slot_list_clear, rfl⟩
  · exact ⟨PySem.F.plainAttrs_list, PySem.F.slot_list_extend, rfl⟩
  · exact ⟨PySem.F.plainAttrs_list, PySem.F.slot_list_pop, rfl⟩
  · exact ⟨PySem.F.plainAttrs_list, PySem.F.slot_list_pop, rfl⟩
  · exact ⟨PySem.F.plainAttrs_dict, PySem.F.slot_dict_pop, rfl⟩
  · exact ⟨PySem.F.plainAttrs_dict, PySem.F.slot_dict_pop, rfl⟩
theorem me_ok {X : Cx} (hu : X.A.units + 1 < cLine) (m : Bool) : ∀ me : Me, me.ok = true → OpM X me.typ me.id me m
  | .get1, _ => me_get1 hu m
  | .get2, _ => me_get2 hu m
  | .append, _ => me_append m
  | .clear, _ => me_clear m
  | .pop0, _ => me_pop0 m
  | .setdef, h => by cases h
  | .extend, h => by cases h
  | .popAt, h => by cases h
  | .popD, h => by cases h
  | .popD2, h => by cases h
theorem boot_range : bootBuiltins ("range" : Str) = some (.type "range") := by decide +kernel
end DD

namespace DD
open PySem PySem.Spec PyProof.Rows L2

theorem map_lookup (g : Str → NameKind → NameKind) : ∀ (names : List (Str × NameKind)) (x : Str), (names.map fun p => (p.1, g p.1 p.2)).lookup x = (names.lookup x).map (g x)
  | [], x => rfl
  | (n, k) :: r, x => by
    rw [List.map_cons, List.lookup_cons, List.lookup_cons]
    cases h : x == n with
    | true =>
      have : x = n := by simpa using h
      subst this
      rfl
    | false => exact map_lookup g r x
def relG (sc : Scope) (n : Str) (k : NameKind) : NameKind := if (k == .free && sc.kind == .function && sc.names.lookup n == some .cell) = true then .cell else k
theorem relS_lookup {scope sc : Scope} {x : Str} {k : NameKind} (h : scope.names.lookup x = some k) : (relS scope sc).names.lookup x = some k ∨ (k = .free ∧ (relS scope sc).names.lookup x = some .cell) := by
  have e : (relS scope sc).names = scope.names.map fun p => (p.1, relG sc p.1 p.2) := by
    unfold relS
    refine List.map_congr_left fun p _ => ?_
    obtain ⟨n, k⟩ := p
    show (if _ then (n, NameKind.cell) else (n, k)) = (n, relG sc n k)
    unfold relG
    split <;> rfl
  rw [e, map_lookup (relG sc), h]
  show some (relG sc x k) = some k ∨ (k = .free ∧ some (relG sc x k) = some .cell)
  unfold relG
  split
  · rename_i c
    simp only [Bool.and_eq_true] at c
    exact .inr ⟨by simpa using c.1.1, rfl⟩
  · exact .inl rfl
section
variable {bn : List Str} {nm : Nat → Str} {fs : List Nat} {xc : Str → Addr} {cx : Cxt} {N : List Str} {k : Nat} {X : Cx} {W : WX} {sc : Scope}
theorem Ok.inBlk (ok : Ok bn nm fs xc cx N k X W sc) (scope : Scope) (s : Shared) (H : Hp) (C : Addr) (cl : List (Str × Addr)) (fp : List Addr) : Ok bn nm fs xc cx N k (X.blk s H scope (compEnvC scope cl C X.env) fp) (fun _ _ _ _ => False) scope := by
  have es : (X.blk s H scope (compEnvC scope cl C X.env) fp).env.scope = relS scope X.env.scope := rfl
  refine ⟨ok.calm, ok.hN, ok.nd, fun x h => ?_, fun x h => ?_, fun x h => ?_, fun sco own b => ⟨b.kind, b.uniq, b.ix, fun y hy e => ?_, b.own⟩, ok.room, ok.bn, ok.fns, takes0⟩
  · rw [es]
    unfold visB at h
    unfold Vis
    split at h
    · rename_i q
      rcases relS_lookup (sc := X.env.scope) q with z | ⟨z, _⟩
      · exact .inl z
      · cases z
    · rename_i q
      rcases relS_lookup (sc := X.env.scope) q with z | ⟨z, _⟩
      · exact .inr (.inl z)
      · cases z
    · rename_i q
      rcases relS_lookup (sc := X.env.scope) q with z | ⟨_, z⟩
      · exact .inr (.inr z)
      · exact .inr (.inl z)
    · cases h
  · rw [es]
    unfold locB at h
    unfold L2.Loc
    split at h
    · rename_i q
      rcases relS_lookup (sc := X.env.scope) q with z | ⟨z, _⟩
      · exact ⟨.inl z, .inr z⟩
      · cases z
    · rename_i q
      rcases relS_lookup (sc := X.env.scope) q with z | ⟨z, _⟩
      · refine ⟨.inr z, .inl ?_⟩
        show (scope.names.lookup x == some .cell) = true
        rw [q]; rfl
      · cases z
    · cases h
  · have q := glob_of h
    rcases relS_lookup (sc := X.env.scope) q with z | ⟨z, _⟩
    · exact z
    · cases z
  · rw [es]
    rcases b.free y hy e with q | q
    · rcases relS_lookup (sc := X.env.scope) q with z | ⟨z, _⟩
      · exact .inl z
      · cases z
    · rcases relS_lookup (sc := X.env.scope) q with z | ⟨_, z⟩
      · exact .inr z
      · exact .inl z
theorem Ok.units (ok : Ok bn nm fs xc cx N k X W sc) : X.A.units + 65 < cLine := by
  have := ok.room.un
  omega
/-- what an expression that is checked is worth -/
structure Snd (xc : Str → Addr) (cx : Cxt) (X : Cx) (W : WX) (E : E) (e : Expr) : Prop where
  pe : vI E = true → PE X e (T X.K (wsOf xc W) (evalE cx E))
  pt : vI E = true → tst E = true → PT X e (TB X.K (wsOf xc W) fun σ S => (evalE cx E σ S).bind toB)
  pw : vI E = true → tst E = true → ∀ op xs p, e = .BoolOp op xs p → PW X e (TB X.K (wsOf xc W) fun σ S => (evalE cx E σ S).bind toB)
  pi : ∀ tg, PI X tg e (TI' X.K (wsOf xc W) fun σ S => walkI E (evalE cx E σ S))
theorem pi_snd {E : E} {e : Expr} (hv : vI E = true) (h : PE X e (T X.K (wsOf xc W) (evalE cx E))) (tg : Expr) : PI X tg e (TI' X.K (wsOf xc W) fun σ S => walkI E (evalE cx E σ S)) := by
  have q := pi_val (tg := tg) h
  have e2 : (fun σ S => walkI E (evalE cx E σ S)) = fun σ S => (evalE cx E σ S).bind fun d S1 => match itemsOf S1 d with
    | some xs => R.ok xs S1
    | none => .stuck := by
    funext σ S
    cases E <;> first | rfl | cases hv
  rw [e2]
  exact q
/-- a value whose test is its truth -/
theorem Snd.plain {E : E} {e : Expr} (hv : vI E = true) (hp : plainTest e = true) (h : PE X e (T X.K (wsOf xc W) (evalE cx E))) : Snd xc cx X W E e where
  pe := fun _ => h
  pt := fun _ _ => pt_weak (pt_val h (isTrue_pl hp X.env)) fun σ H Q q => TB.val q
  pw := fun _ _ op xs p e1 => by subst e1; cases hp
  pi := pi_snd hv h
end
end DD

namespace DD
open PySem PySem.Spec PyProof.Rows L2

section
variable {K : PySem.W.Frag} {W : WS} {σ : L2.St} {H : Hp}
/-- a value that is there at once -/
theorem T.const {d : D} {v : V} {Q : VK} (hv : ∀ β ρ H, RV K β ρ H d v) (h : T K W (fun _ S => .ok d S) σ H Q) : tC v σ H Q := by
  obtain ⟨β, ρ, σd, S, r, h⟩ := h
  exact h.val r (hv _ _ _)
theorem T.var {i : Nat} {Q : VK} (h : T K W (fun σ S => match σ[i]? with
    | some (some d) => .ok d S
    | _ => .stuck) σ H Q) : tVar i σ H Q := by
  obtain ⟨β, ρ, σd, S, r, h⟩ := h
  dsimp only at h
  split at h
  · rename_i d e
    obtain ⟨v, e1, e2⟩ := r.val i d e
    exact ⟨v, e1, h.val r e2⟩
  · exact h.elim
theorem TO.none {Q : Option Int → Hp → Prop} {β : Addr → Prop} {ρ : List Addr} {σd : DEnv} {S : Store} (h : Q Option.none H) : tNoPart σ H Q := h
end
section
variable {bn : List Str} {nm : Nat → Str} {fs : List Nat} {xc : Str → Addr} {cx : Cxt} {N : List Str} {k : Nat}
/-- an optional part of a slice -/
def TOp (K : PySem.W.Frag) (W : WS) (m : DEnv → Store → R (Option Int)) : L2.TO := fun σ H Q => ∃ β ρ σd S, Rel K β ρ σd S σ H ∧ Pst K β ρ σd σ H W (m σd S) fun o _ _ H1 => Q o H1
theorem po_weak {X : Cx} {e : Option Expr} {t t' : L2.TO} (h : PO X e t) (w : ∀ σ H Q, t' σ H Q → t σ H Q) : PO X e t' := ⟨fun pins s σ H Q I q => h.run pins s σ H Q I (w σ H Q q)⟩
theorem po_chk {X : Cx} {W : WS} {lo : E} {f : Expr → Bool} {x : Option Expr} (h : chkO lo f x = true) (hf : lo ≠ .no → ∀ e, f e = true → PE X e (T X.K W (evalE cx lo))) : PO X x (TOp X.K W fun σ S => optI lo (evalE cx lo σ S) S) := by
  by_cases hn : lo = .no
  · subst hn
    cases x with
    | some y => cases h
    | none =>
      refine po_weak po_none fun σ H Q q => ?_
      obtain ⟨β, ρ, σd, S, r, q⟩ := q
      exact q.here r
  · have e1 : (fun σ S => optI lo (evalE cx lo σ S) S) = fun σ S => (evalE cx lo σ S).bind fun d S1 => match d with
        | .int i => R.ok (some i) S1
        | _ => .stuck := by
      funext σ S
      cases lo <;> first | rfl | exact absurd rfl hn
    cases x with
    | none => cases lo <;> first | exact absurd rfl hn | cases h
    | some y =>
      have h : f y = true := by
        cases lo <;> first | exact absurd rfl hn | exact h
      rw [e1]
      refine po_weak (po_some (hf hn y h)) fun σ H Q q => ?_
      obtain ⟨β, ρ, σd, S, r, q⟩ := q
      refine ⟨β, ρ, σd, S, r, q.bind.imp fun d ρ1 S1 H1 k1 r1 q1 v rv => ?_⟩
      cases d with
      | int i => exact ⟨i, rv.int_inv, q1.here r1⟩
      | _ => exact q1.elim
theorem all_ns {x : Expr} {xs : List Expr} (h1 : notStar x = true) (h2 : xs.all notStar = true) : (x :: xs).all notStar = true := by
  rw [List.all_cons, h1, h2]; rfl
mutual
theorem snd_E : ∀ (E : E) {X : Cx} {W : WX} {sc : Scope}, Ok bn nm fs xc cx N k X W sc → ∀ e : Expr, chkE bn nm fs N E sc e = true → Snd xc cx X W E e
  | .var i, X, W, sc, ok, e, c => by
    cases e with
    | Name x p =>
      simp only [chkE, Bool.and_eq_true, Bool.not_eq_true'] at c
      exact .plain rfl rfl (pe_weak (pe_var (by rw [ok.hN]; exact of_decide_eq_true c.1.1.1) (ok.vis x c.1.1.2) c.1.2 c.2) fun σ H Q q => T.var q)
    | _ => simp [chkE] at c
  | .int i, X, W, sc, ok, e, c => by
    cases e with
    | Constant v j p =>
      cases v with
      | int n =>
        simp only [chkE] at c
        have := of_decide_eq_true c
        subst this
        exact .plain rfl rfl (pe_weak pe_int fun σ H Q q => T.const (fun _ _ _ => .int i) q)
      | _ => simp [chkE] at c
    | _ => simp [chkE] at c
  | .bl b, X, W, sc, ok, e, c => by
    cases e with
    | Constant v j p =>
      cases v with
      | bool n =>
        simp only [chkE] at c
        have : b = n := by simpa using c
        subst this
        exact .plain rfl rfl (pe_weak pe_bl fun σ H Q q => T.const (fun _ _ _ => .bl b) q)
      | _ => simp [chkE] at c
    | _ => simp [chkE] at c
  | .str x, X, W, sc, ok, e, c => by
    cases e with
    | Constant v j p =>
      cases v with
      | str n =>
        simp only [chkE] at c
        have := of_decide_eq_true c
        subst this
        exact .plain rfl rfl (pe_weak pe_str fun σ H Q q => T.const (fun _ _ _ => .str x) q)
      | _ => simp [chkE] at c
    | _ => simp [chkE] at c
  | .non, X, W, sc, ok, e, c => by
    cases e with
    | Constant v j p =>
      cases v with
      | none => exact .plain rfl rfl (pe_weak pe_non fun σ H Q q => T.const (fun _ _ _ => .non) q)
      | _ => simp [chkE] at c
    | _ => simp [chkE] at c
  | .glob x d, X, W, sc, ok, e, c => by simp [chkE] at c
  | .bin op m a b, X, W, sc, ok, e, c => by
    cases e with
    | BinOp l o r p =>
      simp only [chkE, Bool.and_eq_true] at c
      obtain ⟨⟨⟨⟨c0, c1⟩, c2⟩, c3⟩, c4⟩ := c
      have := of_decide_eq_true c0
      subst this
      obtain ⟨r, hr, hq⟩ := bin_all (X := X) op m
      exact .plain rfl rfl (pe_weak (pe_op hr ((snd_E a ok l c2).pe c1) ((snd_E b ok _ c4).pe c3)) fun σ H Q q => T.op2 q (hq _))
    | _ => simp [chkE] at c
  | .neg a, X, W, sc, ok, e, c => by
    cases e with
    | UnaryOp op x p =>
      cases op with
      | USub =>
        simp only [chkE, Bool.and_eq_true] at c
        refine .plain rfl rfl (pe_weak (pe_un un_neg ((snd_E a ok x c.2).pe c.1)) fun σ H Q q => ?_)
        obtain ⟨β, ρ, σd, S, r, h⟩ := q
        refine ⟨β, ρ, σd, S, r, (show Pst _ _ _ _ _ _ _ ((evalE cx a σd S).bind _) _ from h).bind.imp fun d ρ1 S1 H1 k1 r1 h1 v rv => ?_⟩
        cases d with
        | int i => exact ⟨i, rv.int_inv, h1.val r1 (.int _)⟩
        | _ => exact h1.elim
      | _ => simp [chkE] at c
    | _ => simp [chkE] at c
  | .not a, X, W, sc, ok, e, c => by
    cases e with
    | UnaryOp op x p =>
      cases op with
      | Not =>
        simp only [chkE, Bool.and_eq_true] at c
        have ia := snd_E a ok x c.2
        have hpe : PE X (.UnaryOp .Not x p) (T X.K (wsOf xc W) (evalE cx (.not a))) := pe_weak (pe_not (ia.pe c.1)) fun σ H Q q => TV.not q
        exact ⟨fun _ => hpe, fun _ ht => pt_weak (pt_not (ia.pt c.1 ht)) fun σ H Q q => TB.not q, (fun _ _ op xs q z => nomatch z), pi_snd rfl hpe⟩
      | _ => simp [chkE] at c
    | _ => simp [chkE] at c
  | .cmp op a b, X, W, sc, ok, e, c => by
    cases e with
    | Compare l ops rs p =>
      cases ops with
      | nil => simp [chkE] at c
      | cons o ops =>
        cases ops with
        | cons _ _ => simp [chkE] at c
        | nil =>
          cases rs with
          | nil => simp [chkE] at c
          | cons r rs =>
            cases rs with
            | cons _ _ => simp [chkE] at c
            | nil =>
              simp only [chkE, Bool.and_eq_true, Bool.not_eq_true'] at c
              obtain ⟨⟨⟨⟨⟨c0, c1⟩, c2⟩, c3⟩, c4⟩, c5⟩ := c
              have := of_decide_eq_true c0
              subst this
              obtain ⟨rr, hr, hq⟩ := cmp_all ok.units op
              have ia := (snd_E a ok l c3).pe c2
              have ib := (snd_E b ok r c5).pe c4
              have core : ∀ σ H Q, T X.K (wsOf xc W) (evalE cx (.cmp op a b)) σ H Q → tOp rr (T X.K (wsOf xc W) (evalE cx a)) (T X.K (wsOf xc W) (evalE cx b)) σ H Q := fun σ H Q q => by
                refine T.op2 (g := fun S2 x y => match cmpop op S2 x y with
                  | some r => .ok (.bl r) S2
                  | none => .stuck) q fun β ρ σd S σ H x y vx vy Q r rx ry h => ?_
                cases e : cmpop op S x y with
                | none => simp only [e] at h; exact h.elim
                | some b => simp only [e] at h; exact hq β ρ σd S σ H x y vx vy b Q r rx ry e (h.val r (.bl b))
              have hpe : PE X (.Compare l [op.op] [r] p) (T X.K (wsOf xc W) (evalE cx (.cmp op a b))) := pe_weak (pe_cmpR hr ia ib c1) core
              exact ⟨fun _ => hpe, fun _ _ => pt_weak (pt_cmpR hr ia ib c1) fun σ H Q q => core σ H _ (TB.val q), (fun _ _ op xs q z => nomatch z), pi_snd rfl hpe⟩
    | _ => simp [chkE] at c
  | .chain o1 o2 a b d, X, W, sc, ok, e, c => by
    cases e with
    | Compare l ops rs p =>
      match ops, rs, c with
      | [p1, q1], [r1, t1], c =>
        simp only [chkE, Bool.and_eq_true, Bool.not_eq_true'] at c
        obtain ⟨⟨⟨⟨⟨⟨⟨⟨c0, c1⟩, c2⟩, c3⟩, c4⟩, c5⟩, c6⟩, c7⟩, c8⟩ := c
        have := of_decide_eq_true c0
        subst this
        have := of_decide_eq_true c1
        subst this
        obtain ⟨rr, hr, hq⟩ := cmp_all ok.units o1
        obtain ⟨rr2, hr2, hq2⟩ := cmp_all ok.units o2
        have ia := (snd_E a ok l c4).pe c3
        have ib := (snd_E b ok r1 c6).pe c5
        have ic := (snd_E d ok t1 c8).pe c7
        have core : ∀ σ H Q, T X.K (wsOf xc W) (evalE cx (.chain o1 o2 a b d)) σ H Q → tChain rr rr2 (T X.K (wsOf xc W) (evalE cx a)) (T X.K (wsOf xc W) (evalE cx b)) (T X.K (wsOf xc W) (evalE cx d)) σ H Q := fun σ H Q q => by
          obtain ⟨β, ρ, σd, S, r, h⟩ := q
          rw [evalE] at h
          refine ⟨β, ρ, σd, S, r, h.bind.imp fun x ρ1 S1 H1 k1 r1 h1 vx rx => ?_⟩
          refine ⟨β, ρ1, σd, S1, r1, h1.bind.imp fun y ρ2 S2 H2 k2 r2 h2 vy ry => ?_⟩
          have rx2 := rx.keep k2
          cases e1 : cmpop o1 S2 x y with
          | none => simp only [e1] at h2; exact h2.elim
          | some bb =>
            refine hq β ρ2 σd S2 σ H2 x y vx vy bb _ r2 rx2 ry e1 ⟨bb, rfl, ?_⟩
            cases bb with
            | false => simp only [e1] at h2; exact h2.val r2 (.bl false)
            | true =>
              simp only [e1] at h2
              refine ⟨β, ρ2, σd, S2, r2, h2.bind.imp fun z ρ3 S3 H3 k3 r3 h3 vz rz => ?_⟩
              cases e2 : cmpop o2 S3 y z with
              | none => simp only [e2] at h3; exact h3.elim
              | some b2 => simp only [e2] at h3; exact hq2 β ρ3 σd S3 σ H3 y z vy vz b2 Q r3 (ry.keep k3) rz e2 (h3.val r3 (.bl b2))
        have hm : lastMarks [o1.op, o2.op] [r1, t1] = false := c2
        have hpe : PE X (.Compare l [o1.op, o2.op] [r1, t1] p) (T X.K (wsOf xc W) (evalE cx (.chain o1 o2 a b d))) := pe_weak (pe_chain hr hr2 ia ib ic hm) core
        exact ⟨fun _ => hpe, fun _ _ => pt_weak (pt_chain hr hr2 ia ib ic hm) fun σ H Q q => core σ H _ (TB.val q), (fun _ _ op xs q z => nomatch z), pi_snd rfl hpe⟩
      | [], _, c => simp [chkE] at c
      | [_], _, c => simp [chkE] at c
      | _ :: _ :: _ :: _, _, c => simp [chkE] at c
      | [_, _], [], c => simp [chkE] at c
      | [_, _], [_], c => simp [chkE] at c
      | [_, _], _ :: _ :: _ :: _, c => simp [chkE] at c
    | _ => simp [chkE] at c
  | .and a b, X, W, sc, ok, e, c => by
    cases e with
    | BoolOp op xs p =>
      cases op with
      | Or => simp [chkE] at c
      | And =>
        match xs, c with
        | [], c => simp [chkE] at c
        | [_], c => simp [chkE] at c
        | [x, y], c =>
          simp only [chkE, Bool.and_eq_true] at c
          obtain ⟨⟨⟨c1, c2⟩, c3⟩, c4⟩ := c
          have ia := snd_E a ok x c2
          have ib := snd_E b ok y c4
          have hpe : PE X (.BoolOp .And [x, y] p) (T X.K (wsOf xc W) (evalE cx (.and a b))) := pe_weak (pe_and (ia.pe c1) (pe_one (ib.pe c3))) fun σ H Q q => TV.and q
          have hpw : tst (.and a b) = true → PW X (.BoolOp .And [x, y] p) (TB X.K (wsOf xc W) fun σ S => (evalE cx (.and a b) σ S).bind toB) := fun ht => by
            rw [tst, Bool.and_eq_true] at ht
            exact ⟨fun wh pins s σ H Q I q => (pw_and (ia.pt c1 ht.1) (pw_and1 (ib.pt c3 ht.2))).run wh pins s σ H Q I (TB.and q)⟩
          exact ⟨fun _ => hpe, fun _ ht => (hpw ht).pt, fun _ ht op xs q z => by cases z; exact hpw ht, pi_snd rfl hpe⟩
        | x :: y :: z :: r, c =>
          simp only [chkE, Bool.and_eq_true] at c
          obtain ⟨⟨⟨c1, c2⟩, c3⟩, c4⟩ := c
          have ia := snd_E a ok x c2
          have ib := snd_E b ok _ c4
          have hpe : PE X (.BoolOp .And (x :: y :: z :: r) p) (T X.K (wsOf xc W) (evalE cx (.and a b))) := pe_weak (pe_and (ia.pe c1) (ib.pe c3)) fun σ H Q q => TV.and q
          have hpw : tst (.and a b) = true → PW X (.BoolOp .And (x :: y :: z :: r) p) (TB X.K (wsOf xc W) fun σ S => (evalE cx (.and a b) σ S).bind toB) := fun ht => by
            rw [tst, Bool.and_eq_true] at ht
            exact ⟨fun wh pins s σ H Q I q => (pw_and (ia.pt c1 ht.1) (ib.pw c3 ht.2 _ _ _ rfl)).run wh pins s σ H Q I (TB.and q)⟩
          exact ⟨fun _ => hpe, fun _ ht => (hpw ht).pt, fun _ ht op xs q z => by cases z; exact hpw ht, pi_snd rfl hpe⟩
    | _ => simp [chkE] at c
  | .or a b, X, W, sc, ok, e, c => by
    cases e with
    | BoolOp op xs p =>
      cases op with
      | And => simp [chkE] at c
      | Or =>
        match xs, c with
        | [], c => simp [chkE] at c
        | [_], c => simp [chkE] at c
        | [x, y], c =>
          simp only [chkE, Bool.and_eq_true] at c
          obtain ⟨⟨⟨c1, c2⟩, c3⟩, c4⟩ := c
          have ia := snd_E a ok x c2
          have ib := snd_E b ok y c4
          have hpe : PE X (.BoolOp .Or [x, y] p) (T X.K (wsOf xc W) (evalE cx (.or a b))) := pe_weak (L2.pe_or (ia.pe c1) (pe_one (ib.pe c3))) fun σ H Q q => TV.or q
          have hpw : tst (.or a b) = true → PW X (.BoolOp .Or [x, y] p) (TB X.K (wsOf xc W) fun σ S => (evalE cx (.or a b) σ S).bind toB) := fun ht => by
            rw [tst, Bool.and_eq_true] at ht
            exact ⟨fun wh pins s σ H Q I q => (pw_or (ia.pt c1 ht.1) (pw_or1 (ib.pt c3 ht.2))).run wh pins s σ H Q I (TB.or q)⟩
          exact ⟨fun _ => hpe, fun _ ht => (hpw ht).pt, fun _ ht op xs q z => by cases z; exact hpw ht, pi_snd rfl hpe⟩
        | x :: y :: z :: r, c =>
          simp only [chkE, Bool.and_eq_true] at c
          obtain ⟨⟨⟨c1, c2⟩, c3⟩, c4⟩ := c
          have ia := snd_E a ok x c2
          have ib := snd_E b ok _ c4
          have hpe : PE X (.BoolOp .Or (x :: y :: z :: r) p) (T X.K (wsOf xc W) (evalE cx (.or a b))) := pe_weak (L2.pe_or (ia.pe c1) (ib.pe c3)) fun σ H Q q => TV.or q
          have hpw : tst (.or a b) = true → PW X (.BoolOp .Or (x :: y :: z :: r) p) (TB X.K (wsOf xc W) fun σ S => (evalE cx (.or a b) σ S).bind toB) := fun ht => by
            rw [tst, Bool.and_eq_true] at ht
            exact ⟨fun wh pins s σ H Q I q => (pw_or (ia.pt c1 ht.1) (ib.pw c3 ht.2 _ _ _ rfl)).run wh pins s σ H Q I (TB.or q)⟩
          exact ⟨fun _ => hpe, fun _ ht => (hpw ht).pt, fun _ ht op xs q z => by cases z; exact hpw ht, pi_snd rfl hpe⟩
    | _ => simp [chkE] at c
  | .ite t a b, X, W, sc, ok, e, c => by
    cases e with
    | IfExp t' x y p =>
      simp only [chkE, Bool.and_eq_true] at c
      obtain ⟨⟨⟨⟨⟨⟨c0, c1⟩, c2⟩, c3⟩, c4⟩, c5⟩, c6⟩ := c
      have hpe : PE X (.IfExp t' x y p) (T X.K (wsOf xc W) (evalE cx (.ite t a b))) := by
        refine pe_weak (pe_ifExp ((snd_E t ok t' c2).pt c1 c0) ((snd_E a ok x c4).pe c3) ((snd_E b ok y c6).pe c5)) fun σ H Q q => ?_
        obtain ⟨β, ρ, σd, S, r, h⟩ := q
        rw [evalE] at h
        refine ⟨β, ρ, σd, S, r, (TB.first (f := fun b' σ S => if b' = true then evalE cx a σ S else evalE cx b σ S) r h).imp fun b' ρ1 S1 H1 k1 r1 h1 => ?_⟩
        cases b' with
        | true => exact ⟨β, ρ1, σd, S1, h1.1, h1.2⟩
        | false => exact ⟨β, ρ1, σd, S1, h1.1, h1.2⟩
      exact ⟨fun _ => hpe, (fun _ ht => by cases ht), (fun _ ht => by cases ht), pi_snd rfl hpe⟩
    | _ => simp [chkE] at c
  | .tup es, X, W, sc, ok, e, c => by
    cases e with
    | Tuple xs j p =>
      simp only [chkE] at c
      refine .plain rfl rfl (pe_weak (pe_tup (snd_Es es ok xs c).1) fun σ H Q q => ?_)
      obtain ⟨β, ρ, σd, S, r, h⟩ := q
      rw [evalE] at h
      refine ⟨β, ρ, σd, S, r, h.bind.imp fun ds ρ1 S1 H1 k1 r1 h1 vs rv => ?_⟩
      obtain ⟨z, h1⟩ := Pst.okIf h1
      have z' : vs.length ≤ sizeLine := by rw [← rv.length]; exact of_decide_eq_true z
      exact ⟨z', fun p hp => mk_tup r1 rv z' h1 hp⟩
    | _ => simp [chkE] at c
  | .lst m es, X, W, sc, ok, e, c => by
    cases e with
    | List xs p =>
      simp only [chkE] at c
      refine .plain rfl rfl (pe_weak (pe_lst (snd_Es es ok xs c).1) fun σ H Q q => ?_)
      obtain ⟨β, ρ, σd, S, r, h⟩ := q
      rw [evalE] at h
      refine ⟨β, ρ, σd, S, r, h.bind.imp fun ds ρ1 S1 H1 k1 r1 h1 vs rv => ?_⟩
      obtain ⟨z, h1⟩ := Pst.okIf h1
      have z' : vs.length ≤ sizeLine := by rw [← rv.length]; exact of_decide_eq_true z
      exact ⟨z', fun p hp => mk_lst r1 rv z' h1 hp⟩
    | _ => simp [chkE] at c
  | .dict m t kvs, X, W, sc, ok, e, c => by
    cases e with
    | Dict ks vs p =>
      cases ks with
      | cons _ _ => simp [chkE] at c
      | nil =>
        cases vs with
        | cons _ _ => simp [chkE] at c
        | nil =>
          cases kvs with
          | nil =>
            cases t with
            | true =>
              refine .plain rfl rfl (pe_weak pe_dnewT fun σ H Q q => ?_)
              obtain ⟨β, ρ, σd, S, r, h⟩ := q
              exact fun p hp => mk_dT r .nil h hp
            | false =>
              refine .plain rfl rfl (pe_weak pe_dnewK fun σ H Q q => ?_)
              obtain ⟨β, ρ, σd, S, r, h⟩ := q
              exact fun p hp => mk_dK r .nil h hp
          | _ => simp [chkE] at c
    | _ => simp [chkE] at c
  | .idx a i, X, W, sc, ok, e, c => by
    cases e with
    | Subscript x y p =>
      simp only [chkE, Bool.and_eq_true] at c
      obtain ⟨⟨⟨⟨c0, c1⟩, c2⟩, c3⟩, c4⟩ := c
      obtain ⟨rr, hr, hq⟩ := ix_all (X := X) (by have := ok.units; omega)
      refine .plain rfl rfl (pe_weak (pe_ix hr ((snd_E a ok x c2).pe c1) ((snd_E i ok y c4).pe c3) (subscripted_ns c0)) fun σ H Q q => ?_)
      refine T.op2 (g := fun S2 x y => match index S2 x y with
        | some d => .ok d S2
        | none => .stuck) q fun β ρ σd S σ H x y vx vy Q r rx ry h => ?_
      cases e : index S x y with
      | none => simp only [e] at h; exact h.elim
      | some d => simp only [e] at h; exact hq β ρ σd S σ H x y vx vy d Q r rx ry e (h.here r)
    | _ => simp [chkE] at c
  | .slice m a lo hi, X, W, sc, ok, e, c => by
    cases e with
    | Subscript x y p =>
      cases y with
      | Slice l h st p2 =>
        cases st with
        | some _ => simp [chkE] at c
        | none =>
          simp only [chkE, Bool.and_eq_true] at c
          obtain ⟨⟨⟨c1, c2⟩, c3⟩, c4⟩ := c
          obtain ⟨rr, hr, hq⟩ := sl_all (X := X)
          have plo := po_chk (X := X) (W := wsOf xc W) (cx := cx) c3 fun _ e he => by
            rw [Bool.and_eq_true] at he
            exact (snd_E lo ok e he.2).pe he.1
          have phi := po_chk (X := X) (W := wsOf xc W) (cx := cx) c4 fun _ e he => by
            rw [Bool.and_eq_true] at he
            exact (snd_E hi ok e he.2).pe he.1
          refine .plain rfl rfl (pe_weak (pe_slice hr ((snd_E a ok x c2).pe c1) plo phi) fun σ H Q q => ?_)
          obtain ⟨β, ρ, σd, S, r, h⟩ := q
          rw [evalE] at h
          refine ⟨β, ρ, σd, S, r, h.bind.imp fun d ρ1 S1 H1 k1 r1 h1 v rv => ?_⟩
          refine ⟨β, ρ1, σd, S1, r1, h1.bind.imp fun l ρ2 S2 H2 k2 r2 h2 => ?_⟩
          refine ⟨β, ρ2, σd, S2, r2, h2.bind.imp fun u ρ3 S3 H3 k3 r3 h3 => ?_⟩
          exact hq m (wsOf xc W) β ρ3 σd S3 σ H3 d v l u Q r3 ((rv.keep k2).keep k3) h3
      | _ => simp [chkE] at c
    | _ => simp [chkE] at c
  | .back m a, X, W, sc, ok, e, c => by simp [chkE] at c
  | .comp m elt tg it ifs own, X, W, sc, ok, e, c => by
    cases e with
    | ListComp e' gs scope p =>
      match gs, c with
      | [], c => simp [chkE] at c
      | _ :: _ :: _, c => simp [chkE] at c
      | [⟨tg', it', ifs', n⟩], c =>
            simp only [chkE, Bool.and_eq_true] at c
            obtain ⟨⟨⟨⟨⟨⟨⟨⟨⟨cn, c0⟩, c1⟩, c2⟩, c3⟩, c4⟩, c5⟩, c6⟩, c7⟩, c8⟩ := c
            have := of_decide_eq_true cn
            subst this
            have bo := ok.blk scope _ (blkOk_by c1)
            have bo' : BlkOk X.N X.env.scope scope (own.map fun i => (N.getD i "", i)) := by rw [ok.hN]; exact bo
            have eo : (own.map fun i => (N.getD i "", i)).map (·.2) = own := by rw [List.map_map]; exact List.map_id own
            have hpe : PE X (.ListComp e' [⟨tg', it', ifs', 0⟩] scope p) (T X.K (wsOf xc W) (evalE cx (.comp m elt tg it ifs own))) := by
              refine pe_lockT (lockIs_of it) (pe_weak (pe_lc (te := T X.K (wsOf xc fun _ _ _ _ => False) (evalE cx elt)) (tt := TB X.K (wsOf xc fun _ _ _ _ => False) (evalC cx ifs)) (g := gT X.K tg) (own := own.map fun i => (N.getD i "", i)) ok.calm ok.nd ((snd_E it ok it' c4).pi tg') bo' (fun s H C cl fp => pg_chk (ok.inBlk scope s H C cl fp) tg tg' c2)
                (fun s H C cl fp => snd_C ifs (ok.inBlk scope s H C cl fp) ifs' c5) (fun s H C cl fp => (snd_E elt (ok.inBlk scope s H C cl fp) e' c7).pe c6) (folded_ns c3 X.env)) fun σ H Q q => ?_)
              rw [eo]
              exact tlc_of c8 q
            exact .plain rfl rfl hpe
    | _ => simp [chkE] at c
  | .call f m es, X, W, sc, ok, e, c => by
    cases e with
    | Call fn xs kws p =>
      cases fn with
      | Name x p1 =>
        cases kws with
        | cons _ _ => simp [chkE] at c
        | nil =>
          simp only [chkE, Bool.and_eq_true, Bool.not_eq_true'] at c
          obtain ⟨⟨⟨⟨c0, c1⟩, c2⟩, c3⟩, c4⟩ := c
          have := of_decide_eq_true c1
          subst this
          obtain ⟨h1, h2, h3⟩ := snd_Es es ok xs c4
          exact .plain rfl rfl (ok.call (f := f) (m := m) (by simpa using c0) (ok.gl _ c2) c3 h2 h1 fun e0 σ S => by rw [h3 e0]; rfl)
      | _ => simp [chkE] at c
    | _ => simp [chkE] at c
  | .callS f es, X, W, sc, ok, e, c => by
    cases e with
    | Call fn xs kws p =>
      cases fn with
      | Name x p1 =>
        cases kws with
        | cons _ _ => simp [chkE] at c
        | nil =>
          simp only [chkE, Bool.and_eq_true, Bool.not_eq_true'] at c
          obtain ⟨⟨⟨⟨c0, c1⟩, c2⟩, c3⟩, c4⟩ := c
          have := of_decide_eq_true c1
          subst this
          obtain ⟨h1, h2, h3⟩ := snd_Es es ok xs c4
          exact .plain rfl rfl (ok.callS (f := f) (by simpa using c0) (ok.gl _ c2) c3 h2 h1 fun e0 σ S => by rw [h3 e0]; rfl)
      | _ => simp [chkE] at c
    | _ => simp [chkE] at c
  | .prim p m es, X, W, sc, ok, e, c => by
    cases e with
    | Call fn xs kws q1 =>
      cases fn with
      | Name x p1 =>
        cases kws with
        | cons _ _ => simp [chkE] at c
        | nil =>
          obtain ⟨b1, b2, b3, b4⟩ := boot_pr p
          by_cases hp : p.ok = true
          · have c' : (decide (x = p.name) && glB sc x && bn.contains x && (p.ok && chkEs bn nm fs N es sc xs && !xs.isEmpty)) = true := by
              cases p <;> first | exact c | cases hp
            simp only [Bool.and_eq_true] at c'
            obtain ⟨⟨⟨c0, c1⟩, c2⟩, ⟨c3, c4⟩, c5⟩ := c'
            have := of_decide_eq_true c0
            subst this
            cases xs with
            | nil => cases c5
            | cons y ys =>
              obtain ⟨h1, h2, h3⟩ := snd_Es es ok (y :: ys) c4
              rw [List.all_cons, Bool.and_eq_true] at h2
              obtain ⟨rr, hr, hq⟩ := pr_ok ok.calm m p hp
              refine .plain rfl rfl (pe_weak (pe_bcall b4 hr (ok.gl _ c1) (ok.bn _ (by simpa using c2)) b1 h1 b2 b3 (starEach_ns h2.1 ys X.env) (starEach_any h2.2 q1 X.env).1) fun σ H Q q => ?_)
              obtain ⟨β, ρ, σd, S, r, h⟩ := q
              rw [evalE] at h
              exact ⟨β, ρ, σd, S, r, h.bind.imp fun ds ρ1 S1 H1 k1 r1 h1 vs rv => hq _ β ρ1 σd S1 σ H1 ds vs Q r1 rv h1⟩
          · cases p with
            | isinst T =>
              have c' := c
              unfold chkE at c'
              rw [Bool.and_eq_true, Bool.and_eq_true, Bool.and_eq_true] at c'
              clear c
              obtain ⟨⟨⟨c0, c1⟩, c2⟩, c3⟩ := c'
              have := of_decide_eq_true c0
              subst this
              dsimp only at c3
              split at c3
              · rename_i a y t p2
                simp only [Bool.and_eq_true] at c3
                obtain ⟨⟨⟨⟨⟨d0, d1⟩, d2⟩, d3⟩, d4⟩, d5⟩ := c3
                have := of_decide_eq_true d3
                subst this
                obtain ⟨t1, t2, t3⟩ := boot_ty T
                obtain ⟨rr, hr, hq⟩ := pr_isinst (X := X) m T
                have pt : PE X (.Name (Str.ofString T.name) p2) (tC (.ty T.name)) := pe_bltn (ok.gl _ d4) (ok.bn _ (by simpa using d5)) t1 rfl t2 t3
                have hs2 : starEach [Expr.Name (Str.ofString T.name) p2] X.env = (false, eval (.Name (Str.ofString T.name) p2) X.env) :: starEach [] X.env := rfl
                refine .plain rfl rfl (pe_weak (pe_bcall b4 hr (ok.gl _ c1) (ok.bn _ (by simpa using c2)) b1 (pa_cons ((snd_E a ok y d2).pe d1) (pa_cons pt pa_nil hs2) (starEach_ns d0 _ X.env)) b2 b3 (starEach_ns d0 _ X.env) (starEach_any (es := [Expr.Name (Str.ofString T.name) p2]) rfl q1 X.env).1) fun σ H Q q => ?_)
                obtain ⟨β, ρ, σd, S, r, h⟩ := q
                have h : Pst X.K β ρ σd σ H (wsOf xc W) ((evalE cx a σd S).bind fun x S1 => prim (.isinst T) m S1 [x]) (ToV X.K β Q) := by
                  have e2 : evalE cx (.prim (.isinst T) m (.cons a .nil)) σd S = (evalE cx a σd S).bind fun x S1 => prim (.isinst T) m S1 [x] := by
                    rw [evalE]
                    show ((evalE cx a σd S).bind _).bind _ = _
                    rw [bind_assoc] <;> rfl
                  rw [← e2]; exact h
                exact ⟨β, ρ, σd, S, r, h.bind.imp fun d ρ1 S1 H1 k1 r1 h1 v rv => hq _ β ρ1 σd S1 σ H1 d v Q r1 rv h1⟩
              · cases c3
            | _ => first | exact absurd rfl hp | simp [chkE, Pr.ok] at c
      | _ => simp [chkE] at c
    | _ => simp [chkE] at c
  | .meth me m o es, X, W, sc, ok, e, c => by
    cases e with
    | Call fn xs kws q1 =>
      cases fn with
      | Attribute x a p1 =>
        cases kws with
        | cons _ _ => simp [chkE] at c
        | nil =>
          simp only [chkE, Bool.and_eq_true] at c
          obtain ⟨⟨⟨⟨⟨⟨⟨c0, c1⟩, c2⟩, c3⟩, c4⟩, c5⟩, c6⟩, c7⟩ := c
          have := of_decide_eq_true c1
          subst this
          obtain ⟨h1, h2, h3⟩ := snd_Es es ok xs c7
          obtain ⟨s1, s2, s3⟩ := me_slots me
          obtain ⟨rr, hr, hrc, hq⟩ := me_ok (X := X) (by have := ok.units; omega) m me c0
          have io := (snd_E o ok x c6).pe c5
          cases xs with
          | nil =>
            refine .plain rfl rfl (pe_weak (pe_rc0 s1 s2 s3 hr io (attributeBase_nb c2 _ X.env _) c3) fun σ H Q q => ?_)
            have en := h3 rfl
            subst en
            obtain ⟨β, ρ, σd, S, r, h⟩ := q
            rw [evalE] at h
            refine ⟨β, ρ, σd, S, r, h.bind.imp fun d ρ1 S1 H1 k1 r1 h1 v rv => ?_⟩
            obtain ⟨z, h1⟩ := Pst.okIf h1
            exact ⟨hrc β ρ1 σd S1 σ H1 d v r1 rv z, hq _ β ρ1 σd S1 σ H1 d v [] [] Q r1 rv .nil h1⟩
          | cons y ys =>
            have h2' := h2
            rw [List.all_cons, Bool.and_eq_true] at h2'
            have hfew : ((backTo q1 (starEach (y :: ys) X.env)).all (fun x => !x.1) && (backToKw q1 (keywordEach [] X.env)).all (fun x => x.1.isSome)
                && decide ((y :: ys).length + ([] : List Keyword).length + (if ([] : List Keyword).isEmpty then 0 else 1) < 30)) = true := by
              have l := of_decide_eq_true c4
              rw [(starEach_any h2 q1 X.env).2]
              show (true && true && decide _) = true
              simp only [Bool.and_true, Bool.true_and, decide_eq_true_eq, List.length_nil, List.isEmpty_nil, if_true]
              omega
            refine .plain rfl rfl (pe_weak (pe_rc s1 s2 s3 hr io h1 (attributeBase_nb c2 _ X.env _) hfew c3 (starEach_ns h2'.1 ys X.env) (starEach_any h2'.2 q1 X.env).1) fun σ H Q q => ?_)
            obtain ⟨β, ρ, σd, S, r, h⟩ := q
            rw [evalE] at h
            refine ⟨β, ρ, σd, S, r, h.bind.imp fun d ρ1 S1 H1 k1 r1 h1 v rv => ?_⟩
            obtain ⟨z, h1⟩ := Pst.okIf h1
            refine ⟨hrc β ρ1 σd S1 σ H1 d v r1 rv z, β, ρ1, σd, S1, r1, h1.bind.imp fun ds ρ2 S2 H2 k2 r2 h2 vs rvs => ?_⟩
            exact hq _ β ρ2 σd S2 σ H2 d v ds vs Q r2 (rv.keep k2) rvs h2
      | _ => simp [chkE] at c
    | _ => simp [chkE] at c
  | .iter kk es, X, W, sc, ok, e, c => by
    cases e with
    | Call fn xs kws q1 =>
      cases fn with
      | Name x p1 =>
        cases kws with
        | cons _ _ => simp [chkE] at c
        | nil =>
          simp only [chkE, Bool.and_eq_true] at c
          obtain ⟨⟨⟨c0, c1⟩, c2⟩, c3⟩ := c
          obtain ⟨h1, h2, h3⟩ := snd_Es es ok xs c3
          have ew : ∀ σ S, walkI (.iter kk es) (evalE cx (.iter kk es) σ S) = (evalEs cx es σ S).bind fun xs S1 => itK kk xs S1 := fun σ S => by
            rw [evalE]
            show ((evalEs cx es σ S).bind _).bind _ = _
            rw [bind_assoc] <;> rfl
          refine ⟨(fun hv => by cases hv), (fun hv => by cases hv), (fun hv => by cases hv), fun tg => ?_⟩
          rw [show (fun σ S => walkI (.iter kk es) (evalE cx (.iter kk es) σ S)) = fun σ S => (evalEs cx es σ S).bind fun xs S1 => itK kk xs S1 from funext fun σ => funext fun S => ew σ S]
          cases kk with
          | range1 =>
            simp only [Bool.and_eq_true] at c0
            have := of_decide_eq_true c0.1
            subst this
            match xs, of_decide_eq_true c0.2, h1, h2 with
            | [a], _, h1, h2 =>
              rw [List.all_cons, Bool.and_eq_true] at h2
              exact pi_rng1 (ok.gl _ c1) (ok.bn _ (by simpa using c2)) h1 (starEach_ns h2.1 [] X.env)
          | range2 =>
            simp only [Bool.and_eq_true] at c0
            have := of_decide_eq_true c0.1
            subst this
            match xs, of_decide_eq_true c0.2, h1, h2 with
            | [a, b], _, h1, h2 =>
              rw [List.all_cons, List.all_cons, Bool.and_eq_true, Bool.and_eq_true] at h2
              have hs2 := starEach_ns h2.2.1 [] X.env
              exact pi_rng2 (ok.gl _ c1) (ok.bn _ (by simpa using c2)) h1 (by rw [starEach_ns h2.1, hs2]; rfl) hs2
          | _ => cases c0
      | _ => simp [chkE] at c
    | _ => simp [chkE] at c
  | .no, X, W, sc, ok, e, c => by simp [chkE] at c
  | .nil, X, W, sc, ok, e, c => by simp [chkE] at c
  | .cons _ _, X, W, sc, ok, e, c => by simp [chkE] at c
theorem snd_Es : ∀ (E : E) {X : Cx} {W : WX} {sc : Scope}, Ok bn nm fs xc cx N k X W sc → ∀ es : List Expr, chkEs bn nm fs N E sc es = true → PA X es (TL X.K (wsOf xc W) (evalEs cx E)) ∧ es.all notStar = true ∧ (es = [] → E = .nil)
  | .nil, X, W, sc, ok, es, c => by
    cases es with
    | cons _ _ => simp [chkEs] at c
    | nil =>
      refine ⟨pa_weak pa_nil fun σ H Q q => ?_, rfl, fun _ => rfl⟩
      obtain ⟨β, ρ, σd, S, r, h⟩ := q
      exact h.here r [] .nil
  | .cons e' es', X, W, sc, ok, es, c => by
    cases es with
    | nil => simp [chkEs] at c
    | cons x r =>
      simp only [chkEs, Bool.and_eq_true] at c
      obtain ⟨⟨⟨c0, c1⟩, c2⟩, c3⟩ := c
      obtain ⟨h1, h2, h3⟩ := snd_Es es' ok r c3
      refine ⟨pa_weak (pa_cons ((snd_E e' ok x c2).pe c1) h1 (starEach_ns c0 r X.env)) fun σ H Q q => ?_, all_ns c0 h2, fun z => nomatch z⟩
      obtain ⟨β, ρ, σd, S, r, h⟩ := q
      rw [evalEs] at h
      refine ⟨β, ρ, σd, S, r, h.bind.imp fun d ρ1 S1 H1 k1 r1 h1 v rv => ?_⟩
      refine ⟨β, ρ1, σd, S1, r1, h1.bind.imp fun ds ρ2 S2 H2 k2 r2 h2 vs rvs => ?_⟩
      exact h2.here r2 (v :: vs) (.cons (rv.keep k2) rvs)
  | .var _, X, W, sc, ok, es, c => by simp [chkEs] at c
  | .int _, X, W, sc, ok, es, c => by simp [chkEs] at c
  | .bl _, X, W, sc, ok, es, c => by simp [chkEs] at c
  | .str _, X, W, sc, ok, es, c => by simp [chkEs] at c
  | .non, X, W, sc, ok, es, c => by simp [chkEs] at c
  | .glob _ _, X, W, sc, ok, es, c => by simp [chkEs] at c
  | .bin _ _ _ _, X, W, sc, ok, es, c => by simp [chkEs] at c
  | .neg _, X, W, sc, ok, es, c => by simp [chkEs] at c
  | .not _, X, W, sc, ok, es, c => by simp [chkEs] at c
  | .cmp _ _ _, X, W, sc, ok, es, c => by simp [chkEs] at c
  | .chain _ _ _ _ _, X, W, sc, ok, es, c => by simp [chkEs] at c
  | .and _ _, X, W, sc, ok, es, c => by simp [chkEs] at c
  | .or _ _, X, W, sc, ok, es, c => by simp [chkEs] at c
  | .ite _ _ _, X, W, sc, ok, es, c => by simp [chkEs] at c
  | .tup _, X, W, sc, ok, es, c => by simp [chkEs] at c
  | .lst _ _, X, W, sc, ok, es, c => by simp [chkEs] at c
  | .dict _ _ _, X, W, sc, ok, es, c => by simp [chkEs] at c
  | .idx _ _, X, W, sc, ok, es, c => by simp [chkEs] at c
  | .slice _ _ _ _, X, W, sc, ok, es, c => by simp [chkEs] at c
  | .back _ _, X, W, sc, ok, es, c => by simp [chkEs] at c
  | .comp _ _ _ _ _ _, X, W, sc, ok, es, c => by simp [chkEs] at c
  | .call _ _ _, X, W, sc, ok, es, c => by simp [chkEs] at c
  | .callS _ _, X, W, sc, ok, es, c => by simp [chkEs] at c
  | .prim _ _ _, X, W, sc, ok, es, c => by simp [chkEs] at c
  | .meth _ _ _ _, X, W, sc, ok, es, c => by simp [chkEs] at c
  | .iter _ _, X, W, sc, ok, es, c => by simp [chkEs] at c
  | .no, X, W, sc, ok, es, c => by simp [chkEs] at c
theorem snd_C : ∀ (E : E) {X : Cx} {W : WX} {sc : Scope}, Ok bn nm fs xc cx N k X W sc → ∀ es : List Expr, chkC bn nm fs N E sc es = true → PTs X es (TB X.K (wsOf xc W) (evalC cx E))
  | .nil, X, W, sc, ok, es, c => by
    cases es with
    | cons _ _ => simp [chkC] at c
    | nil =>
      refine ⟨fun pins s σ H Q I q => pts_nil.run pins s σ H Q I ?_⟩
      obtain ⟨β, ρ, σd, S, r, h⟩ := q
      exact h.here r
  | .cons e' es', X, W, sc, ok, es, c => by
    cases es' with
    | nil =>
      match es, c with
      | [], c => simp [chkC] at c
      | _ :: _ :: _, c => simp [chkC] at c
      | [x], c =>
        simp only [chkC, Bool.and_eq_true] at c
        obtain ⟨⟨c0, c1⟩, c2⟩ := c
        refine ⟨fun pins s σ H Q I q => (pts_one ((snd_E e' ok x c2).pt c1 c0)).run pins s σ H Q I ?_⟩
        obtain ⟨β, ρ, σd, S, r, h⟩ := q
        refine ⟨β, ρ, σd, S, r, ?_⟩
        dsimp only
        have e3 : (evalE cx e' σd S).bind toB = evalC cx (.cons e' .nil) σd S := by
          rw [evalC]
          congr 1
          funext d S1
          cases d with
          | bl b => cases b <;> rfl
          | _ => rfl
        rw [e3]
        exact h
    | _ => cases es <;> simp [chkC] at c
  | .var _, X, W, sc, ok, es, c => by simp [chkC] at c
  | .int _, X, W, sc, ok, es, c => by simp [chkC] at c
  | .bl _, X, W, sc, ok, es, c => by simp [chkC] at c
  | .str _, X, W, sc, ok, es, c => by simp [chkC] at c
  | .non, X, W, sc, ok, es, c => by simp [chkC] at c
  | .glob _ _, X, W, sc, ok, es, c => by simp [chkC] at c
  | .bin _ _ _ _, X, W, sc, ok, es, c => by simp [chkC] at c
  | .neg _, X, W, sc, ok, es, c => by simp [chkC] at c
  | .not _, X, W, sc, ok, es, c => by simp [chkC] at c
  | .cmp _ _ _, X, W, sc, ok, es, c => by simp [chkC] at c
  | .chain _ _ _ _ _, X, W, sc, ok, es, c => by simp [chkC] at c
  | .and _ _, X, W, sc, ok, es, c => by simp [chkC] at c
  | .or _ _, X, W, sc, ok, es, c => by simp [chkC] at c
  | .ite _ _ _, X, W, sc, ok, es, c => by simp [chkC] at c
  | .tup _, X, W, sc, ok, es, c => by simp [chkC] at c
  | .lst _ _, X, W, sc, ok, es, c => by simp [chkC] at c
  | .dict _ _ _, X, W, sc, ok, es, c => by simp [chkC] at c
  | .idx _ _, X, W, sc, ok, es, c => by simp [chkC] at c
  | .slice _ _ _ _, X, W, sc, ok, es, c => by simp [chkC] at c
  | .back _ _, X, W, sc, ok, es, c => by simp [chkC] at c
  | .comp _ _ _ _ _ _, X, W, sc, ok, es, c => by simp [chkC] at c
  | .call _ _ _, X, W, sc, ok, es, c => by simp [chkC] at c
  | .callS _ _, X, W, sc, ok, es, c => by simp [chkC] at c
  | .prim _ _ _, X, W, sc, ok, es, c => by simp [chkC] at c
  | .meth _ _ _ _, X, W, sc, ok, es, c => by simp [chkC] at c
  | .iter _ _, X, W, sc, ok, es, c => by simp [chkC] at c
  | .no, X, W, sc, ok, es, c => by simp [chkC] at c
end
end
end DD

namespace DD
open PySem PySem.Spec PyProof.Rows L2

def notComp : Expr → Bool
  | .ListComp _ _ _ _ => false | .SetComp _ _ _ _ => false | .DictComp _ _ _ _ _ => false | _ => true
theorem sw_no {v : Expr} (h : notComp v = true) (t : Option Expr) (l : Nat) (env : PySem.Env) : swapsWith v t l env = pure false := by
  cases v <;> first | rfl | cases h
def isSub : Expr → Bool
  | .Subscript _ _ _ => true | _ => false
theorem sw_sub (v o i : Expr) (p : Pos) (l : Nat) (env : PySem.Env) : swapsWith v (some (.Subscript o i p)) l env = pure false := by
  cases v <;> rfl
theorem sw_tup (v : Expr) (es : List Expr) (j : Nat) (p : Pos) (l : Nat) (env : PySem.Env) : swapsWith v (some (.Tuple es j p)) l env = pure false := by
  cases v <;> rfl
/-- name = [..] with the comprehension let go at once -/
def swB (sc : Scope) (t : Str) (py : Pos) (v : Expr) : Bool := match v with
  | .ListComp _ _ s pos => (sc.names.lookup t == some .local) && (py.line == pos.line) && !(s.names.any fun (n, k) => n == t && (k == .local || k == .cell))
  | _ => false
theorem sw_name {sc : Scope} {t : Str} {py : Pos} {elt : Expr} {gs : List Comprehension} {s : Scope} {pos : Pos} {l : Nat} {env : PySem.Env} (he : env.scope = sc) (hk : env.scope.kind = .function) :
    swapsWith (.ListComp elt gs s pos) (some (.Name t py)) l env = pure (swB sc t py (.ListComp elt gs s pos)) := by
  subst he
  have hb : env.blockKind = .function := by unfold Env.blockKind; rw [hk]; rfl
  unfold swapsWith swB
  simp only [hb]
  rfl
/-- the pair is no display of a tuple -/
def notTup : Expr → Bool
  | .Tuple _ _ _ => false | _ => true
theorem sws_name (x : Str) (p : Pos) (v : Expr) (env : PySem.Env) : swappedStores [.Name x p] v env = pure none := by
  cases v <;> rfl
theorem sws_sub (o i : Expr) (p : Pos) (v : Expr) (env : PySem.Env) : swappedStores [.Subscript o i p] v env = pure none := by
  cases v <;> rfl
theorem sws_tup {v : Expr} (h : notTup v = true) (t : Expr) (env : PySem.Env) : swappedStores [t] v env = pure none := by
  cases v <;> first | (cases t <;> rfl) | cases h
theorem assign_ns {o i : Expr} (h : notSlice i = true) (p : Pos) (env : PySem.Env) (v : Value) : assign (.Subscript o i p) env v = (do
      let ov ← holding [v] (eval o env)
      let iv ← holding [v, ov] (eval i env)
      standAt p
      holding [v, ov, iv] (setItem ov iv v)
      release [v, ov, iv] []) := by
  cases i <;> first | rfl | cases h
section
variable (bn : List Str) (nm : Nat → Str) (fs : List Nat) (N : List Str)
mutual
def chk1 (sc : Scope) : St → Stmt → Bool
  | .nop, s => match s with
    | .Expr (.Constant (.str _) _ _) _ => true
    | .Pass _ => true
    | _ => false
  | .seq _ _, _ => false
  | .set tg e, s => match s with
    | .Assign [t] v _ => vI e && chkE bn nm fs N e sc v && notStar t && chkT N sc tg t && (match tg with
      | .nm _ => notComp v || (match v with | .ListComp _ _ _ _ => true | _ => false)
      | .tup _ => notTup v
      | _ => false)
    | _ => false
  | .setIdx o i e, s => match s with
    | .Assign [.Subscript o' i' _] v _ => notSlice i' && vI o && chkE bn nm fs N o sc o' && vI i && chkE bn nm fs N i sc i' && vI e && chkE bn nm fs N e sc v
    | _ => false
  | .expr e, s => match s with
    | .Expr v _ => notComp v && vI e && chkE bn nm fs N e sc v
    | _ => false
  | .ite c a b, s => match s with
    | .If c' a' b' _ => tst c && vI c && chkE bn nm fs N c sc c' && chkS sc a a' && chkS sc b b'
    | _ => false
  | .for tg it body, s => match s with
    | .For t it' body' [] _ => chkT N sc tg t && notSet it' && chkE bn nm fs N it sc it' && chkS sc body body'
    | _ => false
  | .while c body, s => match s with
    | .While c' body' [] _ => tst c && vI c && chkE bn nm fs N c sc c' && chkS sc body body'
    | _ => false
  | .ret e, s => match s with
    | .Return (some v) _ => vI e && chkE bn nm fs N e sc v
    | _ => false
  | .retN, s => match s with
    | .Return none _ => true
    | _ => false
  | .raise _, _ => false
def chkS (sc : Scope) : St → List Stmt → Bool
  | .nop, ss => match ss with | [] => true | _ => false
  | .seq a b, ss => match ss with
    | s :: r => chk1 sc a s && chkS sc b r
    | [] => false
  | _, _ => false
end
end
section
variable {K : PySem.W.Frag} {β : Addr → Prop} {ρ : List Addr} {H : Hp} {W : WS} {σ : L2.St}
theorem PstS.ends {r : R (Fl × DEnv)} {D D' : Ends} (h : PstS K β ρ H W r D) (h1 : ∀ σ H, D.nx σ H → D'.nx σ H) (h2 : ∀ v H, D.rt v H → D'.rt v H) : PstS K β ρ H W r D' := by
  cases r with
  | ok p S' =>
    obtain ⟨g, σd'⟩ := p
    cases g with
    | nx => exact fun ρ2 H2 σ2 k2 r2 => h1 _ _ (h ρ2 H2 σ2 k2 r2)
    | rt d => exact fun ρ2 H2 v k2 r2 rv => h2 _ _ (h ρ2 H2 v k2 r2 rv)
    | ex c => exact h
  | exc c S' => exact h
  | stuck => exact h
theorem T.mono {m : DEnv → Store → R D} {Q Q' : VK} (h : T K W m σ H Q) (w : ∀ v H, Q v H → Q' v H) : T K W m σ H Q' := by
  obtain ⟨β, ρ, σd, S, r, h⟩ := h
  exact ⟨β, ρ, σd, S, r, h.imp fun d ρ1 S1 H1 k1 r1 h1 v rv => w v H1 (h1 v rv)⟩
/-- how a value is stored -/
def bindR (tg : Tg) (σ : DEnv) (d : D) (S1 : Store) : R (Fl × DEnv) := match bindT tg d σ with
  | some σ1 => .ok (.nx, σ1) S1
  | none => .stuck
theorem TSs.asg {m : DEnv → Store → R D} {tg : Tg} {D : Ends} (h : TSs K W (fun σ S => (m σ S).lift σ (bindR tg σ)) D σ H) : tAsg (T K W m) (gT K tg) D σ H := by
  obtain ⟨β, ρ, σd, S, r, h⟩ := h
  refine ⟨β, ρ, σd, S, r, (PstS.lift (S := S) h).imp fun d ρ1 S1 H1 k1 r1 h1 v rv => ?_⟩
  unfold bindR at h1
  cases e : bindT tg d σd with
  | none => rw [e] at h1; exact h1.elim
  | some σ1 => rw [e] at h1; exact ⟨β, ρ1, σd, S1, d, σ1, r1, rv, e, fun σ' r' _ => h1 ρ1 H1 σ' (Keep.refl _ _) r'⟩
theorem gT_nm {i : Nat} {v : V} {Q : L2.St → Hp → Prop} (h : gT K (.nm i) v σ H Q) : gName i v σ H Q := by
  obtain ⟨β, ρ, σd, S, d, σd', r, rv, hb, q⟩ := h
  rw [bindT] at hb
  split at hb
  · cases hb
    exact q _ (r.setv rv) fun own ho => wipe_set (by rw [tgIn] at ho; simpa using ho)
  · cases hb
theorem lock_lift {lk : Option Nat} {S : Store} {f : Store → R D} {tg : Tg} {σ : DEnv} : (lockRun (fun _ => true) lk S f).lift σ (bindR tg σ) = lockRun noEx lk S fun S0 => (f S0).lift σ (bindR tg σ) := by
  have core : ∀ (r : R D) (i : Nat) (o : Ob), (lockEnd (fun _ => true) r i o).lift σ (bindR tg σ) = lockEnd noEx (r.lift σ (bindR tg σ)) i o := fun r i o => by
    cases r with
    | ok a S' =>
      show bindR tg σ a (S'.set i o) = lockEnd noEx (bindR tg σ a S') i o
      unfold bindR
      cases bindT tg a σ <;> rfl
    | exc c S' => rfl
    | stuck => rfl
  unfold lockRun
  cases lk with
  | none => rfl
  | some i =>
    dsimp only
    cases S[i]? with
    | none => rfl
    | some o => cases o <;> first | rfl | exact core _ _ _
/-- for: the evaluator's loop is the library's -/
theorem TSs.for {mi : DEnv → Store → R (List D)} {tg : Tg} {body : DEnv → Store → R (Fl × DEnv)} {D : Ends} (h : TSs K W (fun σ S => (mi σ S).lift σ fun xs S1 => forGo tg body xs σ S1) D σ H) : tFor (TI' K W mi) (gT K tg) (TSs K W body) D σ H := by
  obtain ⟨β, ρ, σd, S, r, h⟩ := h
  refine ⟨β, ρ, σd, S, r, (PstS.lift (S := S) h).imp fun xs ρ1 S1 H1 k1 r1 h1 hz J wk => ?_⟩
  refine ⟨fun i m σ2 H2 => m = xs.length - i ∧ i ≤ xs.length ∧ ∃ ρ2 σd2 S2, Keep ρ1 H1 ρ2 H2 ∧ Rel K β ρ2 σd2 S2 σ2 H2 ∧ PstS K β ρ2 H2 W (forGo tg body (xs.drop i) σd2 S2) D, ⟨xs.length, by simp, Nat.zero_le _, ρ1, σd, S1, Keep.refl _ _, r1, by simpa using h1⟩, ?_⟩
  rintro i m σ2 H2 ⟨rfl, hi, ρ2, σd2, S2, k2, r2, h2⟩
  obtain ⟨go, stop, yld⟩ := wk β ρ2 H2 (fun a q => q) (fun a q n => absurd q n) k2 i
  by_cases hlt : i < xs.length
  · refine .inr ⟨go hlt, fun σ3 H3 => i + 1 ≤ xs.length ∧ ∃ ρ2 σd2 S2, Keep ρ1 H1 ρ2 H3 ∧ Rel K β ρ2 σd2 S2 σ3 H3 ∧ PstS K β ρ2 H3 W (forGo tg body (xs.drop (i + 1)) σd2 S2) D, fun σ3 H3 w => ⟨xs.length - (i + 1), by omega, rfl, w⟩, fun x H3 y => ?_⟩
    obtain ⟨ky, sy, sk, rx⟩ := yld xs[i] x H3 (List.getElem?_eq_getElem hlt) y
    have r3 : Rel K β ρ2 σd2 S2 σ2 H3 := r2.step (σd' := σd) (σ' := σ) ky sy
    have h3 := PstS.shift ky h2
    rw [List.drop_eq_getElem_cons hlt, forGo] at h3
    cases eb : bindT tg xs[i] σd2 with
    | none => simp only [eb] at h3; exact h3.elim
    | some σd3 =>
      simp only [eb] at h3
      refine ⟨β, ρ2, σd2, S2, xs[i], σd3, r3, rx, eb, fun σ4 r4 _ => ⟨β, ρ2, σd3, S2, r4, ?_⟩⟩
      refine PstS.ends (PstS.andThen h3 (fun D σ3 H3 => i + 1 ≤ xs.length ∧ ∃ ρ2 σd2 S2, Keep ρ1 H1 ρ2 H3 ∧ Rel K β ρ2 σd2 S2 σ3 H3 ∧ PstS K β ρ2 H3 W (forGo tg body (xs.drop (i + 1)) σd2 S2) D) fun σd' S' ρ' H' σ' _ k' r' h' => ⟨hlt, ρ', σd', S', (k2.trans ky).trans k', r', h'⟩) (fun _ _ q => q) fun _ _ q => q
  · have hi' : i = xs.length := by omega
    refine .inl ⟨stop (by omega), ?_⟩
    rw [hi', List.drop_length, forGo] at h2
    exact h2 ρ2 H2 σ2 (Keep.refl _ _) r2
theorem Pst.toB {m : DEnv → Store → R D} {σd : DEnv} {S : Store} {f : Bool → Store → R (Fl × DEnv)} {D : Ends} (r : Rel K β ρ σd S σ H)
    (h : PstS K β ρ H W ((m σd S).lift σd fun x S1 => match x with
      | .bl true => f true S1
      | .bl false => f false S1
      | _ => .stuck) D) : Pst K β ρ σd σ H W ((m σd S).bind DD.toB) fun b ρ1 S1 H1 => Rel K β ρ1 σd S1 σ H1 ∧ PstS K β ρ1 H1 W (f b S1) D := by
  cases e : m σd S with
  | stuck => rw [e] at h; exact h.elim
  | exc c S1 => rw [e] at h; exact fun ρ1 H1 k r1 => h ρ1 H1 σ k r1
  | ok x S1 =>
    rw [e] at h
    cases x with
    | bl b =>
      cases b with
      | true => exact fun ρ1 H1 k r1 => ⟨r1, PstS.shift k h⟩
      | false => exact fun ρ1 H1 k r1 => ⟨r1, PstS.shift k h⟩
    | _ => exact h.elim
end
end DD

namespace DD
open PySem PySem.Spec PyProof.Rows L2

section
variable {bn : List Str} {nm : Nat → Str} {fs : List Nat} {xc : Str → Addr} {cx : Cxt} {N : List Str} {k : Nat}
structure OkS (bn : List Str) (nm : Nat → Str) (fs : List Nat) (xc : Str → Addr) (cx : Cxt) (N : List Str) (k : Nat) (X : Cx) (W : WX) (sc : Scope) : Prop where
  ok : Ok bn nm fs xc cx N k X W sc
  es : X.env.scope = sc
  hk : X.env.scope.kind = .function
  own : PassesOwn (model X.prog X.w) X.A X.env X.xe
/-- a, b, .. = value; a[i] = value; a = value that is no comprehension let go -/
theorem ps_asgT {X : Cx} {W : WS} {tg : Tg} {t v : Expr} {pos : Pos} {m : DEnv → Store → R D} (hv : PE X v (T X.K W m)) (hg : PG X t (gT X.K tg)) (hn : notStar t = true) (hs : swapsWith v (some t) pos.line X.env = pure false) (hw : swappedStores [t] v X.env = pure none) :
    PS X (.Assign [t] v pos) (TSs X.K W fun σ S => (m σ S).lift σ (bindR tg σ)) :=
  ps_weak (ps_asg hv hg hs hw (by rw [assignEach_ns hn]; rfl)) fun D σ H q => TSs.asg q
mutual
theorem snd_1 {X : Cx} {W : WX} {sc : Scope} (o : OkS bn nm fs xc cx N k X W sc) : ∀ (st : St) (s : Stmt), chk1 bn nm fs N sc st s = true → PS X s (TSs X.K (wsOf xc W) (evalS cx st))
  | .nop, s, c => by
    have nx : ∀ D σ H, TSs X.K (wsOf xc W) (evalS cx .nop) D σ H → tNext D σ H := fun D σ H q => by
      obtain ⟨β, ρ, σd, S, r, h⟩ := q
      exact h ρ H σ (Keep.refl _ _) r
    unfold chk1 at c
    split at c
    · exact ps_weak ps_doc nx
    · exact ps_weak ps_pass nx
    · cases c
  | .seq _ _, s, c => by simp [chk1] at c
  | .set tg e, s, c => by
    cases s with
    | Assign ts v pos =>
      match ts, c with
      | [], c => simp [chk1] at c
      | _ :: _ :: _, c => simp [chk1] at c
      | [t], c =>
        simp only [chk1, Bool.and_eq_true] at c
        obtain ⟨⟨⟨⟨c0, c1⟩, c2⟩, c3⟩, c4⟩ := c
        have iv := snd_E e o.ok v c1
        have ig := pg_chk o.ok tg t c3
        show PS X _ (TSs X.K (wsOf xc W) fun σ S => (evalE cx e σ S).lift σ (bindR tg σ))
        cases tg with
        | nil => cases c4
        | cons _ _ => cases c4
        | tup ts =>
          cases t with
          | Tuple es j p => exact ps_asgT (iv.pe c0) ig c2 (sw_tup v es j p _ _) (sws_tup c4 _ _)
          | _ => simp [chkT] at c3
        | nm i =>
          cases t with
          | Name x p =>
            by_cases hc : notComp v = true
            · exact ps_asgT (iv.pe c0) ig c2 (sw_no hc _ _ _) (sws_name _ _ _ _)
            · cases v with
              | ListComp elt gs s vp =>
                by_cases hb : swB sc x p (.ListComp elt gs s vp) = true
                · -- let go at once
                  cases e with
                  | comp m elt' tg' it ifs own =>
                    match gs, c1, hb with
                    | [], c1, hb => simp [chkE] at c1
                    | _ :: _ :: _, c1, hb => simp [chkE] at c1
                    | [⟨t2, it2, ifs2, n⟩], c1, hb =>
                      simp only [chkE, Bool.and_eq_true] at c1
                      obtain ⟨⟨⟨⟨⟨⟨⟨⟨⟨dn, d0⟩, d1⟩, d2⟩, d3⟩, d4⟩, d5⟩, d6⟩, d7⟩, d8⟩ := c1
                      have := of_decide_eq_true dn
                      subst this
                      have bo := o.ok.blk s _ (blkOk_by d1)
                      have bo' : BlkOk X.N X.env.scope s (own.map fun i => (N.getD i "", i)) := by rw [o.ok.hN]; exact bo
                      have eo : (own.map fun i => (N.getD i "", i)).map (·.2) = own := by rw [List.map_map]; exact List.map_id own
                      simp only [chkT, Bool.and_eq_true] at c3
                      have hi : X.N[i]? = some x := by rw [o.ok.hN]; exact of_decide_eq_true c3.1
                      have hb' := hb
                      unfold swB at hb'
                      simp only [Bool.and_eq_true, Bool.not_eq_true'] at hb'
                      obtain ⟨⟨hb1, hb2⟩, hb3⟩ := hb'
                      have hl : X.env.scope.names.lookup x = some .local := by rw [o.es]; simpa using hb1
                      have hsw : swapsWith (.ListComp elt [⟨t2, it2, ifs2, 0⟩] s vp) (some (.Name x p)) pos.line X.env = pure true := by rw [sw_name o.es o.hk, hb]
                      have e1 : (fun σ S => (evalE cx (.comp m elt' tg' it ifs own) σ S).lift σ (bindR (.nm i) σ)) = fun σ S => lockRun noEx (lockOf it σ) S fun S0 => ((walkI it (evalE cx it σ S0)).bind fun xs S1 =>
                          (noExc (compGo tg' (evalC cx ifs) (evalE cx elt') xs (wipeD σ own) S1)).bind fun ys S3 => mk m (.lst ys) S3).lift σ (bindR (.nm i) σ) := by
                        funext σ S
                        exact lock_lift
                      rw [e1]
                      refine ps_lockT (lockIs_of it) (ps_weak (ps_setLc (te := T X.K (wsOf xc fun _ _ _ _ => False) (evalE cx elt')) (tt := TB X.K (wsOf xc fun _ _ _ _ => False) (evalC cx ifs)) (g := gT X.K tg') (own := own.map fun i => (N.getD i "", i)) o.ok.calm o.ok.nd hi hl hsw ((snd_E it o.ok it2 d4).pi t2) bo'
                        (fun s H C cl fp => pg_chk (o.ok.inBlk _ s H C cl fp) tg' t2 d2) (fun s H C cl fp => snd_C ifs (o.ok.inBlk _ s H C cl fp) ifs2 d5) (fun s H C cl fp => (snd_E elt' (o.ok.inBlk _ s H C cl fp) elt d7).pe d6) (folded_ns d3 X.env)) fun D σ H q => ?_)
                      have q2 := TSs.asg q
                      have q3 : T X.K (wsOf xc W) _ σ H fun x H1 => gName i x σ H1 D.nx := T.mono q2 fun v H z => gT_nm z
                      show tLc _ _ _ _ _ σ H fun x H1 => gName i x σ H1 D.nx
                      rw [eo]
                      exact tlc_of d8 q3
                  | _ => simp [chkE] at c1
                · exact ps_asgT (iv.pe c0) ig c2 (by rw [sw_name o.es o.hk]; rw [Bool.eq_false_iff.mpr hb]) (sws_name _ _ _ _)
              | SetComp _ _ _ _ => cases c4
              | DictComp _ _ _ _ _ => cases c4
              | _ => exact absurd rfl hc
          | _ => simp [chkT] at c3
    | _ => simp [chk1] at c
  | .setIdx a i e, s, c => by
    cases s with
    | Assign ts v pos =>
      match ts, c with
      | [], c => simp [chk1] at c
      | _ :: _ :: _, c => simp [chk1] at c
      | [t], c =>
        cases t with
        | Subscript a' i' p =>
          simp only [chk1, Bool.and_eq_true] at c
          obtain ⟨⟨⟨⟨⟨⟨cs, c0⟩, c1⟩, c2⟩, c3⟩, c4⟩, c5⟩ := c
          obtain ⟨rr, hr, hq⟩ := set_all (X := X) (by have := o.ok.units; omega)
          refine ps_weak (ps_asg ((snd_E e o.ok v c5).pe c4) (pg_sub ((snd_E a o.ok a' c1).pe c0) ((snd_E i o.ok i' c3).pe c2) hr fun w => assign_ns cs p X.env w) (sw_sub v a' i' p pos.line X.env) (sws_sub a' i' p v X.env) (by rw [assignEach_ns rfl]; rfl)) fun D σ H q => ?_
          obtain ⟨β, ρ, σd, S, r, h⟩ := q
          rw [evalS] at h
          refine ⟨β, ρ, σd, S, r, (PstS.lift (S := S) h).imp fun d ρ1 S1 H1 k1 r1 h1 v rv => ?_⟩
          refine ⟨β, ρ1, σd, S1, r1, (PstS.lift (S := S1) h1).imp fun x ρ2 S2 H2 k2 r2 h2 vx rx => ?_⟩
          refine ⟨β, ρ2, σd, S2, r2, (PstS.lift (S := S2) h2).imp fun y ρ3 S3 H3 k3 r3 h3 vy ry => ?_⟩
          cases e1 : setIdx S3 x y d with
          | none => simp only [e1] at h3; exact h3.elim
          | some S4 =>
            simp only [e1] at h3
            exact hq β ρ3 σd S3 σ H3 x y d vx vy v S4 _ r3 (rx.keep k3) ry ((rv.keep k2).keep k3) e1 fun H' k' r' => h3 ρ3 H' σ k' r'
        | _ => simp [chk1] at c
    | _ => simp [chk1] at c
  | .expr e, s, c => by
    cases s with
    | Expr v pos =>
      simp only [chk1, Bool.and_eq_true] at c
      refine ps_weak (ps_expr ((snd_E e o.ok v c.2).pe c.1.2) (sw_no c.1.1 _ _ _)) fun D σ H q => ?_
      obtain ⟨β, ρ, σd, S, r, h⟩ := q
      rw [evalS] at h
      exact ⟨β, ρ, σd, S, r, (PstS.lift (S := S) h).imp fun d ρ1 S1 H1 k1 r1 h1 v rv => h1 ρ1 H1 σ (Keep.refl _ _) r1⟩
    | _ => simp [chk1] at c
  | .ite t a b, s, c => by
    cases s with
    | If t' a' b' pos =>
      simp only [chk1, Bool.and_eq_true] at c
      obtain ⟨⟨⟨⟨c0, c1⟩, c2⟩, c3⟩, c4⟩ := c
      refine ps_weak (ps_if ((snd_E t o.ok t' c2).pt c1 c0) (snd_S o a a' c3) (snd_S o b b' c4)) fun D σ H q => ?_
      obtain ⟨β, ρ, σd, S, r, h⟩ := q
      rw [evalS] at h
      refine ⟨β, ρ, σd, S, r, (Pst.toB (f := fun b' S1 => if b' = true then evalS cx a σd S1 else evalS cx b σd S1) r h).imp fun b' ρ1 S1 H1 k1 r1 h1 => ?_⟩
      cases b' with
      | true => exact ⟨β, ρ1, σd, S1, h1.1, h1.2⟩
      | false => exact ⟨β, ρ1, σd, S1, h1.1, h1.2⟩
    | _ => simp [chk1] at c
  | .for tg it body, s, c => by
    cases s with
    | For t it' body' orelse pos =>
      cases orelse with
      | cons _ _ => simp [chk1] at c
      | nil =>
        simp only [chk1, Bool.and_eq_true] at c
        obtain ⟨⟨⟨c0, c1⟩, c2⟩, c3⟩ := c
        refine ps_lockT (lockIs_of it) (ps_weak (ps_for o.own o.ok.calm ((snd_E it o.ok it' c2).pi t) (pg_chk o.ok tg t c0) (snd_S o body body' c3) (folded_ns c1 X.env)) fun D σ H q => TSs.for q)
    | _ => simp [chk1] at c
  | .while t body, s, c => by
    cases s with
    | While t' body' orelse pos =>
      cases orelse with
      | cons _ _ => simp [chk1] at c
      | nil =>
        simp only [chk1, Bool.and_eq_true] at c
        obtain ⟨⟨⟨c0, c1⟩, c2⟩, c3⟩ := c
        refine ps_weak (ps_while o.own ((snd_E t o.ok t' c2).pt c1 c0) (snd_S o body body' c3)) fun D σ H q => ?_
        obtain ⟨β, ρ, σd, S, r, h⟩ := q
        rw [evalS] at h
        refine ⟨fun m σ2 H2 => ∃ ρ2 σd2 S2, Rel X.K β ρ2 σd2 S2 σ2 H2 ∧ PstS X.K β ρ2 H2 (wsOf xc W) (whileGo (evalE cx t) (evalS cx body) m σd2 S2) D, ⟨cx.fuel, ρ, σd, S, r, h⟩, ?_⟩
        rintro m σ2 H2 ⟨ρ2, σd2, S2, r2, h2⟩
        cases m with
        | zero => exact h2.elim
        | succ m =>
          rw [whileGo] at h2
          refine ⟨β, ρ2, σd2, S2, r2, (Pst.toB (f := fun b' S1 => if b' = true then (evalS cx body σd2 S1).andThen fun σ1 S2 => whileGo (evalE cx t) (evalS cx body) m σ1 S2 else .ok (.nx, σd2) S1) r2 h2).imp fun b' ρ1 S1 H1 k1 r1 h1 => ?_⟩
          obtain ⟨r1, h1⟩ := h1
          cases b' with
          | false => exact h1 ρ1 H1 σ2 (Keep.refl _ _) r1
          | true =>
            refine ⟨fun σ3 H3 => ∃ ρ2 σd2 S2, Rel X.K β ρ2 σd2 S2 σ3 H3 ∧ PstS X.K β ρ2 H3 (wsOf xc W) (whileGo (evalE cx t) (evalS cx body) m σd2 S2) D, fun σ3 H3 w => ⟨m, Nat.lt_succ_self m, w⟩, β, ρ1, σd2, S1, r1, ?_⟩
            refine PstS.ends (PstS.andThen (f := fun σ1 S2 => whileGo (evalE cx t) (evalS cx body) m σ1 S2) h1 (fun D σ3 H3 => ∃ ρ2 σd2 S2, Rel X.K β ρ2 σd2 S2 σ3 H3 ∧ PstS X.K β ρ2 H3 (wsOf xc W) (whileGo (evalE cx t) (evalS cx body) m σd2 S2) D) fun σd' S' ρ' H' σ' _ k' r' h' => ⟨ρ', σd', S', r', h'⟩) (fun _ _ q => q) fun _ _ q => q
    | _ => simp [chk1] at c
  | .ret e, s, c => by
    cases s with
    | Return v pos =>
      cases v with
      | none => simp [chk1] at c
      | some v =>
        simp only [chk1, Bool.and_eq_true] at c
        refine ps_weak (ps_ret ((snd_E e o.ok v c.2).pe c.1)) fun D σ H q => ?_
        obtain ⟨β, ρ, σd, S, r, h⟩ := q
        rw [evalS] at h
        exact ⟨β, ρ, σd, S, r, (PstS.lift (S := S) h).imp fun d ρ1 S1 H1 k1 r1 h1 v rv => h1 ρ1 H1 v (Keep.refl _ _) (rel_sub r1) rv⟩
    | _ => simp [chk1] at c
  | .retN, s, c => by
    cases s with
    | Return v pos =>
      cases v with
      | some v => simp [chk1] at c
      | none =>
        refine ps_weak ps_retN fun D σ H q => ?_
        obtain ⟨β, ρ, σd, S, r, h⟩ := q
        exact h ρ H .non (Keep.refl _ _) (rel_sub r) .non
    | _ => simp [chk1] at c
  | .raise _, s, c => by simp [chk1] at c
theorem snd_S {X : Cx} {W : WX} {sc : Scope} (o : OkS bn nm fs xc cx N k X W sc) : ∀ (st : St) (ss : List Stmt), chkS bn nm fs N sc st ss = true → PSs X ss (TSs X.K (wsOf xc W) (evalS cx st))
  | .nop, ss, c => by
    cases ss with
    | cons _ _ => simp [chkS] at c
    | nil =>
      refine pss_weak pss_nil fun D σ H q => ?_
      obtain ⟨β, ρ, σd, S, r, h⟩ := q
      exact h ρ H σ (Keep.refl _ _) r
  | .seq a b, ss, c => by
    cases ss with
    | nil => simp [chkS] at c
    | cons s r =>
      simp only [chkS, Bool.and_eq_true] at c
      refine pss_weak (pss_cons (snd_1 o a s c.1) (snd_S o b r c.2)) fun D σ H q => ?_
      obtain ⟨β, ρ, σd, S, r, h⟩ := q
      rw [evalS] at h
      exact ⟨β, ρ, σd, S, r, PstS.andThen h (TSs X.K (wsOf xc W) (evalS cx b)) fun σd' S' ρ' H' σ' _ k' r' h' => ⟨β, ρ', σd', S', r', h'⟩⟩
  | .set _ _, ss, c => by simp [chkS] at c
  | .setIdx _ _ _, ss, c => by simp [chkS] at c
  | .expr _, ss, c => by simp [chkS] at c
  | .ite _ _ _, ss, c => by simp [chkS] at c
  | .for _ _ _, ss, c => by simp [chkS] at c
  | .while _ _, ss, c => by simp [chkS] at c
  | .ret _, ss, c => by simp [chkS] at c
  | .retN, ss, c => by simp [chkS] at c
  | .raise _, ss, c => by simp [chkS] at c
end
end
end DD

namespace DD
open PySem PySem.Spec PyProof.Rows L2

/-- a def with what it is in the language -/
structure FD where
  name : Str
  st : Stmt
  N : List Str
  ps : List Str
  body : St
def FD.fn (d : FD) : Fn := ⟨d.ps.length, d.N.length, d.body⟩
abbrev Tab := List FD
def Tab.fn (T : Tab) (f : Nat) : Option Fn := (T[f]?).map FD.fn
def Tab.nm (T : Tab) (f : Nat) : Str := match T[f]? with
  | some d => d.name
  | none => ""
def Tab.fs (T : Tab) : List Nat := List.range T.length
/-- a look at the names of a def's scope -/
def scB (N P : List Str) (sc : Scope) : Bool :=
  (match sc.kind with | .function => true | _ => false) && !sc.isCoroutine && !sc.isGenerator && decide N.Nodup && decide (N.take P.length = P) && P.all (fun x => decide (sc.names.lookup x = some .local) || decide (sc.names.lookup x = some .cell)) && sc.names.all (fun y => !decide (y.2 = .free))
theorem fnScope_of {N P : List Str} {sc : Scope} (h : scB N P sc = true) : FnScope N P sc := by
  unfold scB at h
  simp only [Bool.and_eq_true, Bool.not_eq_true', decide_eq_true_eq, List.all_eq_true, Bool.or_eq_true, decide_eq_false_iff_not] at h
  obtain ⟨⟨⟨⟨⟨⟨h1, h2⟩, h3⟩, h4⟩, h5⟩, h6⟩, h7⟩ := h
  refine ⟨?_, h2, h3, h4, h5, h6, h7⟩
  split at h1
  · assumption
  · cases h1
def FD.chk (bn : List Str) (T : Tab) (d : FD) : Bool := scB d.N d.ps (defScope d.st) && chkS bn T.nm T.fs d.N (defScope d.st) d.body (defBody d.st)
def Tab.chk (bn : List Str) (T : Tab) : Bool := T.all fun d => d.chk bn T
/-- where the def stands -/
structure At (K : PySem.W.Frag) (mg : Str → Option Value) (d : FD) : Prop where
  ex : ∃ (f : Addr) (fd : FuncData), L2.Fun K d.name d.name d.st f fd ∧ mg d.name = some (.ref f) ∧ Binds K fd d.ps []

section
variable {K : PySem.W.Frag} {β : Addr → Prop} {ρ : List Addr} {H : Hp}
theorem RVs.toVal : ∀ {ds : List D} {vs : List V} {i : Nat} {d : D}, RVs K β ρ H ds vs → (ds.map some)[i]? = some (some d) → ∃ v, (vs.map some)[i]? = some (some v) ∧ RV K β ρ H d v := fun {ds vs i d} h e => by
  rw [List.getElem?_map] at e
  obtain ⟨d', e1, e2⟩ := Option.map_eq_some_iff.mp e
  cases e2
  obtain ⟨v, e3, e4⟩ := h.get e1
  exact ⟨v, by rw [List.getElem?_map, e3]; rfl, e4⟩
/-- the frame at the entry -/
theorem rel_start {S : Store} {ds : List D} {vs : List V} {N : List Str} {n : Nat} (r : Rel K β ρ [] S [] H) (rv : RVs K β ρ H ds vs) (hn : n = N.length - vs.length) : Rel K β ρ (ds.map some ++ List.replicate n none) S (L2.start N vs) H := by
  have hl := rv.length
  refine ⟨by unfold L2.start; simp [hl, hn], fun i d h => ?_, r.nd, r.lenS, r.ob, r.bad⟩
  unfold L2.start
  by_cases hi : i < ds.length
  · rw [List.getElem?_append_left (by simpa using hi)] at h
    obtain ⟨v, e1, e2⟩ := rv.toVal h
    exact ⟨v, by rw [List.getElem?_append_left (by simp; omega)]; exact e1, e2⟩
  · rw [List.getElem?_append_right (by simpa using hi), List.getElem?_replicate] at h
    split at h <;> cases h
theorem rel_none {S : Store} (hS : S = []) (hβ : ∀ a, β a → H a ≠ none) : Rel K β [] [] S [] H := by
  subst hS
  exact ⟨rfl, fun i d h => by simp at h, List.nodup_nil, rfl, fun i a o h => by simp at h, fun a h => ⟨hβ a h, by simp⟩⟩
theorem same_of {H' : Hp} {ρ' : List Addr} (k : Keep [] H ρ' H') : Same H H' := fun b o e => k.same b o e (by simp)
/-- what a body's end hands over -/
theorem finish_ok {S : Store} {H' : Hp} {ρ' : List Addr} {d : D} {v : V} {Q : VK} {E : Str → Prop} (k : Keep [] H ρ' H') (r : Rel K β ρ' [] S [] H') (rv : RV K β ρ' H' d v)
    (h : match finish S d with
      | .val d => ∀ H' v, Same H H' → RV K β [] H' d v → Q v H'
      | .new o => ∀ H' a u, Same H H' → H a = none → H' a = some u → RU K (fun b => β b ∨ b = a) [] H' u o → Q (.ref a) H'
      | .exc c => E c
      | .stuck => False) : Q v H' := by
  have plain : ∀ {d' : D}, D.rd S d = some d' → RV K β [] H' d' v := fun {d'} e => rv_sub (bad_of fun _ z => z) (rv_rdN (fun _ z => z) r 8) d v d' rv e
  have other : (match D.rd S d with
      | some d' => Res.val d'
      | none => .stuck) = finish S d → Q v H' := fun e => by
    rw [← e] at h
    cases er : D.rd S d with
    | none => simp only [er] at h
    | some d' => simp only [er] at h; exact h H' v (same_of k) (plain er)
  cases d with
  | ref i =>
    unfold finish at h
    cases eo : S[i]? with
    | none => simp only [eo] at h
    | some o =>
      simp only [eo] at h
      cases rv with
      | @ref _ a hi =>
        have hna : H a = none := k.new a (List.mem_of_getElem? hi) (by simp)
        have q := r.ob i a o hi eo
        cases o with
        | lck o => exact h.elim
        | lst xs =>
          obtain ⟨u, hu, vs, eu, z, rvs⟩ := q
          subst eu
          simp only at h
          cases es : D.subs (rdX i 8 S) xs with
          | none => simp only [es] at h
          | some ys =>
            simp only [es] at h
            exact h H' a _ (same_of k) hna hu ⟨vs, rfl, z, rv_subs (γ := fun b => β b ∨ b = a) (bad_ofX hi fun _ z => z) (rv_rdX hi (fun _ z => z) r 8) xs vs ys rvs es⟩
        | dct t kvs =>
          obtain ⟨u, hu, ru⟩ := q
          simp only at h
          cases es : D.subks (rdX i 8 S) kvs with
          | none => simp only [es] at h
          | some ys =>
            simp only [es] at h
            cases t with
            | true =>
              obtain ⟨hk, eu, rk⟩ := ru
              subst eu
              exact h H' a _ (same_of k) hna hu ⟨hk, rfl, rkt_subs (γ := fun b => β b ∨ b = a) (bad_ofX hi fun _ z => z) (rv_rdX hi (fun _ z => z) r 8) kvs hk ys rk es⟩
            | false =>
              obtain ⟨hk, eu, rk⟩ := ru
              subst eu
              exact h H' a _ (same_of k) hna hu ⟨hk, rfl, rkk_subs (γ := fun b => β b ∨ b = a) (bad_ofX hi fun _ z => z) (rv_rdX hi (fun _ z => z) r 8) kvs hk ys rk es⟩
  | _ => exact other rfl
end
section
variable {P : Program} {w : World} {K : PySem.W.Frag} {mg : Str → Option Value} {base : Heap} {xc : Str → Addr} {bn : List Str} {T : Tab} {fuel : Nat}
/-- a def, where its callees are known -/
theorem tab_step (hb : ∀ b ∈ bn, mg b = none) (hT : T.chk bn = true) {l f : Nat} (ih : ∀ g ∈ T.fs, FnTh P w K mg base xc (cxt T.fn fuel l) l (T.nm g) g) (hlt : f < T.length) {fa : Addr} {fd : FuncData} (F : L2.Fun K T[f].name T[f].name T[f].st fa fd) :
    FnOk P w K mg base (L2.CX P w) (l + 1) fa fd T[f].ps (spF K xc T[f].ps.length (cxt T.fn fuel (l + 1)) f) := by
  have ed : T[f]? = some T[f] := List.getElem?_eq_getElem hlt
  have ef : T.fn f = some T[f].fn := by unfold Tab.fn; rw [ed]; rfl
  have c : T[f].chk bn T = true := List.all_eq_true.mp hT T[f] (List.getElem_mem hlt)
  unfold FD.chk at c
  rw [Bool.and_eq_true] at c
  have S := fnScope_of c.1
  refine F.okX S (fun vs H Q E h => h.1) fun cdv A outer s H vs Q E hr h => ?_
  have tk : Takes (cxOf (L2.CX P w) P w K mg base T[f].N T[f].name (defScope T[f].st) fa cdv A outer s H E) (fun cls d _ H => E cls d H) := takes_of rfl rfl rfl rfl
  have ok : Ok bn T.nm T.fs xc (cxt T.fn fuel l) T[f].N l (cxOf (L2.CX P w) P w K mg base T[f].N T[f].name (defScope T[f].st) fa cdv A outer s H E) (fun cls d _ H => E cls d H) (defScope T[f].st) :=
    ⟨rfl, rfl, S.nd, fun x h => visB_vis h, fun x h => ⟨locB_loc h, .inl rfl⟩, fun x h => glob_of h, fun sc own b => b, hr, hb, ih, tk⟩
  have os : OkS bn T.nm T.fs xc (cxt T.fn fuel l) T[f].N l (cxOf (L2.CX P w) P w K mg base T[f].N T[f].name (defScope T[f].st) fa cdv A outer s H E) (fun cls d _ H => E cls d H) (defScope T[f].st) := ⟨ok, rfl, S.kind, passes_of rfl⟩
  refine ⟨_, snd_S os T[f].body (defBody T[f].st) c.2, ?_⟩
  obtain ⟨hl, h⟩ := h
  rcases h with ⟨β, as, rv, hβ, h⟩ | ⟨β, ρ, as, S0, r, rv, h⟩
  · have e1 : (cxt T.fn fuel (l + 1)).call f as = runFn (cxt T.fn fuel l) T[f].fn as := by
      show (match T.fn f with | some fn => runFn (cxt T.fn fuel l) fn as | none => .stuck) = _
      rw [ef]
    rw [e1] at h
    have hla := rv.length
    unfold runFn at h
    have ha : as.length = T[f].fn.arity := hla.trans hl
    rw [if_pos ha] at h
    have rs := rel_start (N := T[f].N) (n := T[f].fn.slots - T[f].fn.arity) (rel_none (K := K) rfl hβ) rv (by show T[f].N.length - T[f].ps.length = _; rw [hl])
    refine ⟨β, [], _, [], rs, ?_⟩
    have eb : T[f].fn.body = T[f].body := rfl
    rw [eb] at h
    cases er : evalS (cxt T.fn fuel l) T[f].body (as.map some ++ List.replicate (T[f].fn.slots - T[f].fn.arity) none) [] with
    | stuck => rw [er] at h; exact h.elim
    | exc c S' => rw [er] at h; exact h.elim
    | ok p S' =>
      rw [er] at h
      obtain ⟨g, σd'⟩ := p
      cases g with
      | nx => exact fun ρ' H' σ' k r' => h H' .non (same_of k) .non
      | rt d => exact fun ρ' H' v k r' q => finish_ok (E := fun c => ∀ H', Same H H' → E (.ref (xc c)) none H') k r' q h
      | ex c => exact fun ρ' H' σ' k r' => h H' (same_of k)
  · have e1 : (cxt T.fn fuel (l + 1)).callS f as S0 = runFnS (cxt T.fn fuel l) T[f].fn as S0 := by
      show (match T.fn f with | some fn => runFnS (cxt T.fn fuel l) fn as S0 | none => .stuck) = _
      rw [ef]
    rw [e1] at h
    have hla := rv.length
    unfold runFnS at h
    have ha : as.length = T[f].fn.arity := hla.trans hl
    rw [if_pos ha] at h
    have rs := rel_start (N := T[f].N) (n := T[f].fn.slots - T[f].fn.arity) r rv (by show T[f].N.length - T[f].ps.length = _; rw [hl])
    refine ⟨β, ρ, _, S0, rs, ?_⟩
    have eb : T[f].fn.body = T[f].body := rfl
    rw [eb] at h
    cases er : evalS (cxt T.fn fuel l) T[f].body (as.map some ++ List.replicate (T[f].fn.slots - T[f].fn.arity) none) S0 with
    | stuck => rw [er] at h; exact h.elim
    | exc c S' => rw [er] at h; exact h.elim
    | ok p S' =>
      rw [er] at h
      obtain ⟨g, σd'⟩ := p
      cases g with
      | nx => exact fun ρ' H' σ' k r' => h ρ' H' .non k (rel_sub r') .non
      | rt d => exact fun ρ' H' v k r' q => h ρ' H' v k r' q
      | ex c => exact fun ρ' H' σ' k r' => h ρ' H' k (rel_sub r')
/-- every def of the table, to every depth -/
theorem tab_ok (hb : ∀ b ∈ bn, mg b = none) (hT : T.chk bn = true) (hat : ∀ d ∈ T, At K mg d) : ∀ (l f : Nat), f ∈ T.fs → FnTh P w K mg base xc (cxt T.fn fuel l) l (T.nm f) f
  | l, f, hf => by
    have hlt : f < T.length := by simpa [Tab.fs] using hf
    have ed : T[f]? = some T[f] := List.getElem?_eq_getElem hlt
    obtain ⟨fa, fd, F, hm, hbi⟩ := (hat T[f] (List.getElem_mem hlt)).ex
    have en : T.nm f = T[f].name := by unfold Tab.nm; rw [ed]
    have ef : T.fn f = some T[f].fn := by unfold Tab.fn; rw [ed]; rfl
    refine ⟨fa, fd, T[f].ps, by rw [en]; exact hm, F.kp, hbi, ?_, ?_⟩
    · cases l with
      | zero =>
        refine ⟨fun vs H Q E h => h.1, fun A outer s H args us vs Q E hr he hbt hv h => ?_⟩
        rcases h.2 with ⟨β, as, _, _, z⟩ | ⟨β, ρ, as, S, _, _, z⟩ <;> exact z.elim
      | succ l => exact tab_step hb hT (fun g hg => tab_ok hb hT hat l g hg) hlt F
    · intro as hne
      cases l with
      | zero => exact ⟨rfl, fun S => rfl⟩
      | succ l =>
        refine ⟨?_, fun S => ?_⟩
        · show (match T.fn f with | some fn => runFn (cxt T.fn fuel l) fn as | none => .stuck) = _
          rw [ef]
          exact if_neg hne
        · show (match T.fn f with | some fn => runFnS (cxt T.fn fuel l) fn as S | none => .stuck) = _
          rw [ef]
          exact if_neg hne
theorem At.of {d : FD} {f : Addr} {fd : FuncData} (F : L2.Fun K d.name d.name d.st f fd) (hm : mg d.name = some (.ref f)) (hb : Binds K fd d.ps []) : At K mg d := ⟨f, fd, F, hm, hb⟩
theorem no_exc {P : Program} {w : World} {H : Hp} {s s' : Shared} {e : Value} (h : L2.CX P w [] H s (fun _ _ _ => False) e s') : False := by
  obtain ⟨_, _, _, _, _, _, _, _, _, _, _, _, z⟩ := h
  exact z.elim
/-- the law's promise, by the evaluator's answer -/
theorem sp_law {cx : Cxt} {f : Nat} {H : Hp} {a : Addr} {ns : List Int} (h : cx.call f [.lst (ns.map D.int)] = .val (.bl true)) (hl : ns.length ≤ sizeLine) (hS : SqL K H a (ns.map V.int)) : spF K xc 1 cx f [.ref a] H (fun v _ => v = .bl true) fun _ _ _ => False := by
  refine ⟨rfl, .inl ⟨fun _ => False, [.lst (ns.map D.int)], .cons (.lst ⟨by simpa using hl, ?_⟩ (.ints ns)) .nil, fun a z => z.elim, ?_⟩⟩
  · rcases hS with h | h
    · exact .inl ⟨h, fun z => z.elim id fun y => nomatch y⟩
    · exact .inr (.inr h)
  · rw [h]
    exact fun H' v _ q => q.bl_inv
end
end DD

namespace DD
open PySem

@[simp] theorem R.bind_ok {α β : Type} (a : α) (S : Store) (f : α → Store → R β) : (R.ok a S).bind f = f a S := rfl
@[simp] theorem R.bind_st {α β : Type} (f : α → Store → R β) : (R.stuck : R α).bind f = .stuck := rfl
@[simp] theorem R.lift_ok {α : Type} (a : α) (S : Store) (σ : DEnv) (f : α → Store → R (Fl × DEnv)) : (R.ok a S).lift σ f = f a S := rfl
@[simp] theorem R.then_nx (σ : DEnv) (S : Store) (f : DEnv → Store → R (Fl × DEnv)) : (R.ok (Fl.nx, σ) S).andThen f = f σ S := rfl
@[simp] theorem R.then_rt (d : D) (σ : DEnv) (S : Store) (f : DEnv → Store → R (Fl × DEnv)) : (R.ok (Fl.rt d, σ) S).andThen f = .ok (.rt d, σ) S := rfl
theorem okIf_of {α : Type} {c : Bool} (h : c = true) (r : R α) : okIf c r = r := by subst h; rfl
@[simp] theorem okIf_true {α : Type} (r : R α) : okIf true r = r := rfl
section
variable (cx : Cxt) (σ : DEnv) (S : Store)
@[simp] theorem ev_var (i : Nat) : evalE cx (.var i) σ S = match σ[i]? with
    | some (some d) => .ok d S
    | _ => .stuck := rfl
@[simp] theorem ev_int (i : Int) : evalE cx (.int i) σ S = .ok (.int i) S := rfl
@[simp] theorem ev_bl (i : Bool) : evalE cx (.bl i) σ S = .ok (.bl i) S := rfl
@[simp] theorem ev_str (i : Str) : evalE cx (.str i) σ S = .ok (.str i) S := rfl
@[simp] theorem ev_non : evalE cx .non σ S = .ok .non S := rfl
@[simp] theorem ev_bin (op : Bop) (m : Bool) (a b : E) : evalE cx (.bin op m a b) σ S = (evalE cx a σ S).bind fun x S1 => (evalE cx b σ S1).bind fun y S2 => binop op m S2 x y := rfl
@[simp] theorem es_nil : evalEs cx .nil σ S = .ok [] S := rfl
@[simp] theorem es_cons (e es : E) : evalEs cx (.cons e es) σ S = (evalE cx e σ S).bind fun x S1 => (evalEs cx es σ S1).bind fun xs S2 => .ok (x :: xs) S2 := rfl
@[simp] theorem ec_nil : evalC cx .nil σ S = .ok true S := rfl
@[simp] theorem st_nop : evalS cx .nop σ S = .ok (.nx, σ) S := rfl
@[simp] theorem st_seq (a b : St) : evalS cx (.seq a b) σ S = (evalS cx a σ S).andThen fun σ1 S1 => evalS cx b σ1 S1 := rfl
@[simp] theorem st_set (tg : Tg) (e : E) : evalS cx (.set tg e) σ S = (evalE cx e σ S).lift σ (bindR tg σ) := rfl
@[simp] theorem st_expr (e : E) : evalS cx (.expr e) σ S = (evalE cx e σ S).lift σ fun _ S1 => .ok (.nx, σ) S1 := rfl
@[simp] theorem st_ret (e : E) : evalS cx (.ret e) σ S = (evalE cx e σ S).lift σ fun d S1 => .ok (.rt d, σ) S1 := rfl
@[simp] theorem st_retN : evalS cx .retN σ S = .ok (.rt .non, σ) S := rfl
def setR (σ : DEnv) (x y d : D) (S3 : Store) : R (Fl × DEnv) := match setIdx S3 x y d with
    | some S4 => .ok (.nx, σ) S4
    | none => .stuck
@[simp] theorem st_setIdx (o i v : E) : evalS cx (.setIdx o i v) σ S = (evalE cx v σ S).lift σ fun d S1 => (evalE cx o σ S1).lift σ fun x S2 => (evalE cx i σ S2).lift σ fun y S3 => setR σ x y d S3 := rfl
def condS (x : D) (t e : R (Fl × DEnv)) : R (Fl × DEnv) := match x with
    | .bl true => t
    | .bl false => e
    | _ => .stuck
@[simp] theorem condS_bl (b : Bool) (t e : R (Fl × DEnv)) : condS (.bl b) t e = if b = true then t else e := by cases b <;> rfl
@[simp] theorem st_ite (c : E) (a b : St) : evalS cx (.ite c a b) σ S = (evalE cx c σ S).lift σ fun x S1 => condS x (evalS cx a σ S1) (evalS cx b σ S1) := rfl
@[simp] theorem st_for (tg : Tg) (it : E) (body : St) : evalS cx (.for tg it body) σ S = lockRun noEx (lockOf it σ) S fun S0 => (walkI it (evalE cx it σ S0)).lift σ fun xs S1 => forGo tg (evalS cx body) xs σ S1 := rfl
@[simp] theorem bindR_nm (i : Nat) (d : D) : bindR (.nm i) σ d S = if i < σ.length then .ok (.nx, σ.set i (some d)) S else .stuck := by
  unfold bindR
  rw [bindT]
  by_cases h : i < σ.length <;> simp [h]
def negR (x : D) (S1 : Store) : R D := match x with
    | .int i => .ok (.int (-i)) S1
    | _ => .stuck
@[simp] theorem negR_int (i : Int) : negR (.int i) S = .ok (.int (-i)) S := rfl
@[simp] theorem ev_neg (a : E) : evalE cx (.neg a) σ S = (evalE cx a σ S).bind negR := rfl
def notR (x : D) (S1 : Store) : R D := match x with
    | .bl b => .ok (.bl (!b)) S1
    | _ => .stuck
@[simp] theorem notR_bl (i : Bool) : notR (.bl i) S = .ok (.bl (!i)) S := rfl
@[simp] theorem ev_not (a : E) : evalE cx (.not a) σ S = (evalE cx a σ S).bind notR := rfl
def blR (o : Option Bool) (S : Store) : R D := match o with
    | some r => .ok (.bl r) S
    | none => .stuck
@[simp] theorem blR_some (b : Bool) : blR (some b) S = .ok (.bl b) S := rfl
@[simp] theorem ev_cmp (op : Cop) (a b : E) : evalE cx (.cmp op a b) σ S = (evalE cx a σ S).bind fun x S1 => (evalE cx b σ S1).bind fun y S2 => blR (cmpop op S2 x y) S2 := rfl
@[simp] theorem ev_chain (o1 o2 : Cop) (a b c : E) : evalE cx (.chain o1 o2 a b c) σ S = (evalE cx a σ S).bind fun x S1 => (evalE cx b σ S1).bind fun y S2 => match cmpop o1 S2 x y with
      | some true => (evalE cx c σ S2).bind fun z S3 => blR (cmpop o2 S3 y z) S3
      | some false => .ok (.bl false) S2
      | none => .stuck := rfl
/-- a test -/
def condR {α : Type} (x : D) (t e : R α) : R α := match x with
    | .bl true => t
    | .bl false => e
    | _ => .stuck
@[simp] theorem condR_bl {α : Type} (b : Bool) (t e : R α) : condR (.bl b) t e = if b = true then t else e := by cases b <;> rfl
@[simp] theorem ev_and (a b : E) : evalE cx (.and a b) σ S = (evalE cx a σ S).bind fun x S1 => condR x (evalE cx b σ S1) (.ok (.bl false) S1) := rfl
@[simp] theorem ev_or (a b : E) : evalE cx (.or a b) σ S = (evalE cx a σ S).bind fun x S1 => condR x (.ok (.bl true) S1) (evalE cx b σ S1) := rfl
@[simp] theorem ev_ite (c a b : E) : evalE cx (.ite c a b) σ S = (evalE cx c σ S).bind fun x S1 => condR x (evalE cx a σ S1) (evalE cx b σ S1) := rfl
@[simp] theorem ev_tup (es : E) : evalE cx (.tup es) σ S = (evalEs cx es σ S).bind fun xs S1 => okIf (decide (xs.length ≤ sizeLine)) (.ok (.tup xs) S1) := rfl
@[simp] theorem ev_lst (m : Bool) (es : E) : evalE cx (.lst m es) σ S = (evalEs cx es σ S).bind fun xs S1 => okIf (decide (xs.length ≤ sizeLine)) (mk m (.lst xs) S1) := rfl
def ixR (o : Option D) (S : Store) : R D := match o with
    | some r => .ok r S
    | none => .stuck
@[simp] theorem ixR_some (b : D) : ixR (some b) S = .ok b S := rfl
@[simp] theorem ev_idx (a i : E) : evalE cx (.idx a i) σ S = (evalE cx a σ S).bind fun x S1 => (evalE cx i σ S1).bind fun y S2 => ixR (index S2 x y) S2 := rfl
@[simp] theorem ev_slice (m : Bool) (a lo hi : E) : evalE cx (.slice m a lo hi) σ S = (evalE cx a σ S).bind fun x S1 => (optI lo (evalE cx lo σ S1) S1).bind fun l S2 => (optI hi (evalE cx hi σ S2) S2).bind fun h S3 => slice m S3 x l h := rfl
@[simp] theorem ev_comp (m : Bool) (elt : E) (tg : Tg) (it ifs : E) (own : List Nat) : evalE cx (.comp m elt tg it ifs own) σ S = lockRun (fun _ => true) (lockOf it σ) S fun S0 => (walkI it (evalE cx it σ S0)).bind fun xs S1 =>
      (noExc (compGo tg (evalC cx ifs) (evalE cx elt) xs (wipeD σ own) S1)).bind fun ys S3 => mk m (.lst ys) S3 := rfl
/-- what a call hands back, taken over -/
def takeR (m : Bool) (xs : List D) (S1 : Store) (r : Res) : R D := match r with
      | .val d => okIf (D.noRefs xs || d.flat) (.ok d S1)
      | .new (.lst ys) => okIf (D.noRefs xs || D.flats ys) (mk m (.lst ys) S1)
      | .new (.dct t kvs) => okIf (D.noRefs xs || D.flatKs kvs) (mk m (.dct t kvs) S1)
      | .new (.lck _) => .stuck
      | .exc c => .exc c S1
      | .stuck => .stuck
def callR (f : List D → Res) (m : Bool) (xs : List D) (S1 : Store) : R D := match D.rds S1 xs with
    | none => .stuck
    | some as => takeR m xs S1 (f as)
@[simp] theorem ev_call (f : Nat) (m : Bool) (es : E) : evalE cx (.call f m es) σ S = (evalEs cx es σ S).bind (callR (cx.call f) m) := rfl
@[simp] theorem ev_callS (f : Nat) (es : E) : evalE cx (.callS f es) σ S = (evalEs cx es σ S).bind fun xs S1 => cx.callS f xs S1 := rfl
@[simp] theorem ev_prim (p : Pr) (m : Bool) (es : E) : evalE cx (.prim p m es) σ S = (evalEs cx es σ S).bind fun xs S1 => prim p m S1 xs := rfl
@[simp] theorem ev_meth (me : Me) (m : Bool) (o es : E) : evalE cx (.meth me m o es) σ S = (evalE cx o σ S).bind fun x S1 => okIf (me.recv S1 x) ((evalEs cx es σ S1).bind fun xs S2 => meth me m S2 x xs) := rfl
@[simp] theorem ev_iter (k : ItK) (es : E) : evalE cx (.iter k es) σ S = (evalEs cx es σ S).bind fun xs S1 => .ok (.tup xs) S1 := rfl
end
theorem callR_ok {f : List D → Res} {m : Bool} {xs : List D} {S : Store} {d : D} (hn : D.noRefs xs = true) (h : f xs = .val d) : callR f m xs S = .ok d S := by
  unfold callR D.rds
  rw [subs_noRef xs hn]
  simp only [h, takeR, hn, Bool.true_or, okIf_true]
theorem callR_new {f : List D → Res} {m : Bool} {xs : List D} {S : Store} {ys : List D} (hn : D.noRefs xs = true) (h : f xs = .new (.lst ys)) : callR f m xs S = mk m (.lst ys) S := by
  unfold callR D.rds
  rw [subs_noRef xs hn]
  simp only [h, takeR, hn, Bool.true_or, okIf_true]
/-! ### ops on plain values -/
section
variable (S : Store) (m : Bool)
@[simp] theorem bo_add (i j : Int) : binop .add m S (.int i) (.int j) = .ok (.int (i + j)) S := rfl
@[simp] theorem bo_sub (i j : Int) : binop .sub m S (.int i) (.int j) = .ok (.int (i - j)) S := rfl
@[simp] theorem bo_mul (i j : Int) : binop .mul m S (.int i) (.int j) = okIf (mulOk i j) (.ok (.int (i * j)) S) := rfl
@[simp] theorem bo_fdiv (i j : Int) : binop .fdiv m S (.int i) (.int j) = okIf (divOk j) (.ok (.int (i / j)) S) := rfl
@[simp] theorem bo_mod (i j : Int) : binop .mod m S (.int i) (.int j) = okIf (decide (0 < j)) (.ok (.int (i % j)) S) := rfl
@[simp] theorem bo_pow (i j : Int) : binop .pow m S (.int i) (.int j) = okIf (powOk i j) (.ok (.int (i ^ j.toNat)) S) := rfl
@[simp] theorem bo_catT (xs ys : List D) : binop .add m S (.tup xs) (.tup ys) = okIf (decide (xs.length + ys.length ≤ sizeLine)) (.ok (.tup (xs ++ ys)) S) := rfl
@[simp] theorem bo_catL (xs ys : List D) : binop .add m S (.lst xs) (.lst ys) = okIf (decide (xs.length + ys.length ≤ sizeLine)) (mk m (.lst (xs ++ ys)) S) := rfl
@[simp] theorem mk_false (xs : List D) : mk false (.lst xs) S = .ok (.lst xs) S := rfl
@[simp] theorem mk_true (o : Ob) : mk true o S = .ok (.ref S.length) (S ++ [o]) := rfl
theorem eqv_int (i j : Int) : D.eqv (.int i) (.int j) = decide (i = j) := by
  have := key_eqv (.inl i) (.inl j)
  simpa [keyD] using this
theorem eqv_str (i j : Str) : D.eqv (.str i) (.str j) = decide (i = j) := by
  have := key_eqv (.inr i) (.inr j)
  simpa [keyD] using this
@[simp] theorem ok_int (i : Int) : D.cmpOk (.int i) = true := rfl
@[simp] theorem ok_bl (i : Bool) : D.cmpOk (.bl i) = true := rfl
theorem eq_int (i j : Int) : D.eq? S (.int i) (.int j) = some (decide (i = j)) := by
  show (if (D.cmpOk (.int i) && D.cmpOk (.int j)) = true then some (D.eqv (.int i) (.int j)) else none) = _
  rw [ok_int, ok_int, eqv_int]
  rfl
@[simp] theorem co_eqI (i j : Int) : cmpop .eq S (.int i) (.int j) = some (decide (i = j)) := eq_int S i j
@[simp] theorem co_neI (i j : Int) : cmpop .ne S (.int i) (.int j) = some (!decide (i = j)) := by
  show (D.eq? S (.int i) (.int j)).map not = _
  rw [eq_int]; rfl
theorem lt_int (i j : Int) : D.lt? S (.int i) (.int j) = some (decide (i < j)) := by
  show (if (W.alike (.int i) (.int j) && D.cmpOk (.int i) && D.cmpOk (.int j) && !false) = true then some (W.dataLt (.int i) (.int j)) else none) = _
  rw [ok_int, ok_int]
  show some (W.dataLt (.int i) (.int j)) = _
  rw [W.dataLt_int]
@[simp] theorem co_ltI (i j : Int) : cmpop .lt S (.int i) (.int j) = some (decide (i < j)) := lt_int S i j
@[simp] theorem co_gtI (i j : Int) : cmpop .gt S (.int i) (.int j) = some (decide (j < i)) := lt_int S j i
@[simp] theorem co_geI (i j : Int) : cmpop .ge S (.int i) (.int j) = some (!decide (i < j)) := by
  show (D.lt? S (.int i) (.int j)).map not = _
  rw [lt_int]; rfl
@[simp] theorem co_leI (i j : Int) : cmpop .le S (.int i) (.int j) = some (!decide (j < i)) := by
  show (D.lt? S (.int j) (.int i)).map not = _
  rw [lt_int]; rfl
@[simp] theorem co_eqB (i j : Bool) : cmpop .eq S (.bl i) (.bl j) = some (i == j) := by
  cases i <;> cases j <;> rfl
theorem co_eqS (i j : Str) (hi : D.cmpOk (.str i) = true) (hj : D.cmpOk (.str j) = true) : cmpop .eq S (.str i) (.str j) = some (decide (i = j)) := by
  show (if (D.cmpOk (.str i) && D.cmpOk (.str j)) = true then some (D.eqv (.str i) (.str j)) else none) = _
  rw [hi, hj, eqv_str]
  rfl
theorem co_words {i j : Str} {b : Bool} (h : (D.cmpOk (.str i) && D.cmpOk (.str j) && (decide (i = j) == b)) = true) : cmpop .eq S (.str i) (.str j) = some b := by
  rw [Bool.and_eq_true, Bool.and_eq_true] at h
  rw [co_eqS S i j h.1.1 h.1.2]
  exact congrArg some (by simpa using h.2)
@[simp] theorem ix_lst (xs : List D) (k : Int) : index S (.lst xs) (.int k) = L2.atI xs k := rfl
@[simp] theorem ix_tup (xs : List D) (k : Int) : index S (.tup xs) (.int k) = L2.atI xs k := rfl
@[simp] theorem pr_lenT (xs : List D) : prim .len m S [.tup xs] = .ok (.int xs.length) S := rfl
@[simp] theorem pr_lenL (xs : List D) : prim .len m S [.lst xs] = .ok (.int xs.length) S := rfl
@[simp] theorem pr_tupL (xs : List D) : prim .tuple m S [.lst xs] = .ok (.tup xs) S := rfl
@[simp] theorem pr_isB (T : Ty) (b : Bool) : prim (.isinst T) m S [.bl b] = .ok (.bl (Ty.sub .bool T)) S := rfl
@[simp] theorem pr_isI (T : Ty) (b : Int) : prim (.isinst T) m S [.int b] = .ok (.bl (Ty.sub .int T)) S := rfl
end
@[simp] theorem optI_no (r : R D) (S : Store) : optI .no r S = .ok none S := rfl
@[simp] theorem optI_int (i j : Int) (S S1 : Store) : optI (.int j) (.ok (.int i) S1) S = .ok (some i) S1 := rfl
@[simp] theorem optI_var (i : Int) (j : Nat) (S S1 : Store) : optI (.var j) (.ok (.int i) S1) S = .ok (some i) S1 := rfl
@[simp] theorem optI_neg (i : Int) (j : E) (S S1 : Store) : optI (.neg j) (.ok (.int i) S1) S = .ok (some i) S1 := rfl
@[simp] theorem optI_bin (i : Int) (op : Bop) (m : Bool) (a b : E) (S S1 : Store) : optI (.bin op m a b) (.ok (.int i) S1) S = .ok (some i) S1 := rfl
@[simp] theorem sl_lst (m : Bool) (S : Store) (xs : List D) (lo hi : Option Int) : slice m S (.lst xs) lo hi = mk m (.lst (cutD xs lo hi)) S := rfl
@[simp] theorem sl_tup (m : Bool) (S : Store) (xs : List D) (lo hi : Option Int) : slice m S (.tup xs) lo hi = .ok (.tup (cutD xs lo hi)) S := rfl
theorem sl_ref (m : Bool) {S : Store} {i : Nat} {xs : List D} (e : S[i]? = some (.lst xs)) (lo hi : Option Int) : slice m S (.ref i) lo hi = mk m (.lst (cutD xs lo hi)) S := by
  unfold slice D.list?
  simp only [e, Option.map_some, Ob.inner]
/-! ### places of lists -/
theorem atI_at {α : Type} {xs : List α} {k : Int} (h0 : 0 ≤ k) {v : α} (h : xs[k.toNat]? = some v) : L2.atI xs k = some v := by
  have hl := (List.getElem?_eq_some_iff.mp h).1
  unfold L2.atI L2.ixN
  rw [if_pos h0, if_pos (by omega)]
  exact h
theorem atI_ints {ns : List Int} {k : Int} (h0 : 0 ≤ k) (h1 : k < ns.length) : L2.atI (ns.map D.int) k = some (.int (ns.getD k.toNat 0)) := by
  refine atI_at h0 ?_
  rw [List.getElem?_map, List.getElem?_eq_getElem (by omega), List.getD_eq_getElem?_getD, List.getElem?_eq_getElem (by omega)]
  rfl
theorem atI_ex {ns : List Int} {k : Int} (h0 : 0 ≤ k) (h1 : k < ns.length) : ∃ z, z ∈ ns ∧ L2.atI (ns.map D.int) k = some (.int z) := by
  refine ⟨ns[k.toNat]'(by omega), List.getElem_mem _, atI_at h0 ?_⟩
  rw [List.getElem?_map, List.getElem?_eq_getElem (by omega)]
  rfl
/-- the places of a list of ints by a function that nothing is known of -/
theorem ints_fn (ns : List Int) : ∃ X : Int → Int, ∀ k : Int, 0 ≤ k → k < ns.length → L2.atI (ns.map D.int) k = some (.int (X k)) ∧ X k ∈ ns := by
  refine ⟨fun k => ns.getD k.toNat 0, fun k h0 h1 => ⟨atI_ints h0 h1, ?_⟩⟩
  show ns.getD k.toNat 0 ∈ ns
  rw [List.getD_eq_getElem?_getD, List.getElem?_eq_getElem (by omega), Option.getD_some]
  exact List.getElem_mem _
theorem cutD_from (xs : List D) (k : Nat) : cutD xs (some (k : Int)) none = xs.drop k := by
  unfold cutD
  rw [HT.sIx_nat, HT.sIx_none]
  by_cases h : k ≤ xs.length
  · rw [Nat.min_eq_left h, List.take_of_length_le (by rw [List.length_drop]; omega)]
  · rw [Nat.min_eq_right (by omega), List.drop_length, List.drop_eq_nil_of_le (by omega), List.take_nil]
theorem cutD_to (xs : List D) (k : Nat) : cutD xs none (some (k : Int)) = xs.take k := by
  unfold cutD
  rw [HT.sIx_nat, HT.sIx_none]
  by_cases h : k ≤ xs.length
  · rw [Nat.min_eq_left h]; rfl
  · rw [Nat.min_eq_right (by omega), List.take_of_length_le (i := k) (l := xs) (by omega), List.drop_zero, Nat.sub_zero, List.take_length]
@[simp] theorem noRefs_ints : ∀ ns : List Int, D.noRefs (ns.map D.int) = true
  | [] => rfl
  | n :: ns => by
    rw [List.map_cons, D.noRefs, noRefs_ints ns]
    rfl
theorem finish_val {d : D} (h : d.noRef = true) (S : Store) : finish S d = .val d := by
  have e : D.rd S d = some d := sub_noRef d h
  cases d with
  | ref i => cases h
  | _ => unfold finish; simp only [e]
theorem finish_new {S : Store} {i : Nat} {xs : List D} (e : S[i]? = some (.lst xs)) (h : D.noRefs xs = true) : finish S (.ref i) = .new (.lst xs) := by
  unfold finish
  simp only [e, subs_noRef xs h]
theorem mul_small {i j : Int} (h0 : 0 ≤ i) (h1 : i < 2 ^ 64) : mulOk i j = true := by
  unfold mulOk
  simp only [decide_eq_true_eq]
  omega
theorem pow_of {i j : Int} (h : (decide (0 ≤ j ∧ j ≤ 1000 ∧ i.natAbs.log2 < 2000)) = true) : powOk i j = true := h
@[simp] theorem walkI_it (k : ItK) (es : E) (xs : List D) (S : Store) : walkI (.iter k es) (.ok (.tup xs) S) = itK k xs S := rfl
theorem it_range1 {j : Int} (h0 : 0 ≤ j) (h1 : j ≤ sizeLine) (S : Store) : itK .range1 [.int j] S = .ok (intsFrom 0 j.toNat) S := by
  show okIf (decide (-(2 ^ 62) ≤ j ∧ j ≤ sizeLine)) (.ok (intsFrom 0 j.toNat) S) = _
  exact okIf_of (by simp only [decide_eq_true_eq]; omega) _
theorem call_step {F : Nat → Option Fn} {fuel l f : Nat} {fn : Fn} (h : F f = some fn) (as : List D) : (cxt F fuel (l + 1)).call f as = runFn (cxt F fuel l) fn as := by
  show (match F f with | some fn => runFn (cxt F fuel l) fn as | none => .stuck) = _
  rw [h]
theorem run_rt {c : Cxt} {fn : Fn} {as : List D} {d : D} {σ : DEnv} {S : Store} {r : Res} (ha : as.length = fn.arity) (h : evalS c fn.body (as.map some ++ List.replicate (fn.slots - fn.arity) none) [] = .ok (.rt d, σ) S) (hf : finish S d = r) : runFn c fn as = r := by
  unfold runFn
  rw [if_pos ha, h]
  exact hf
/-! ### loops -/
/-- a loop that never leaves: the invariant I over items, slots and store -/
theorem forGo_all {tg : Tg} {body : DEnv → Store → R (Fl × DEnv)} (I : DEnv → Store → Prop) : ∀ (xs : List D) (σ : DEnv) (S : Store), I σ S → (∀ x ∈ xs, ∀ σ S, I σ S → ∃ σ1 σ2 S2, bindT tg x σ = some σ1 ∧ body σ1 S = .ok (.nx, σ2) S2 ∧ I σ2 S2) →
    ∃ σ' S', forGo tg body xs σ S = .ok (.nx, σ') S' ∧ I σ' S'
  | [], σ, S, h, _ => ⟨σ, S, rfl, h⟩
  | x :: xs, σ, S, h, hb => by
    obtain ⟨σ1, σ2, S2, e1, e2, h2⟩ := hb x List.mem_cons_self σ S h
    obtain ⟨σ', S', e3, h3⟩ := forGo_all I xs σ2 S2 h2 fun y hy => hb y (List.mem_cons_of_mem _ hy)
    refine ⟨σ', S', ?_, h3⟩
    rw [forGo, e1]
    show ((body σ1 S).andThen fun σ1 S1 => forGo tg body xs σ1 S1) = _
    rw [e2]
    exact e3
/-- .. with a state that is carried along -/
theorem forGo_fold {α : Type} {tg : Tg} {body : DEnv → Store → R (Fl × DEnv)} (I : α → DEnv → Store → Prop) (f : α → D → α) : ∀ (xs : List D) (a : α) (σ : DEnv) (S : Store), I a σ S → (∀ x ∈ xs, ∀ a σ S, I a σ S → ∃ σ1 σ2 S2, bindT tg x σ = some σ1 ∧ body σ1 S = .ok (.nx, σ2) S2 ∧ I (f a x) σ2 S2) →
    ∃ σ' S', forGo tg body xs σ S = .ok (.nx, σ') S' ∧ I (xs.foldl f a) σ' S'
  | [], a, σ, S, h, _ => ⟨σ, S, rfl, h⟩
  | x :: xs, a, σ, S, h, hb => by
    obtain ⟨σ1, σ2, S2, e1, e2, h2⟩ := hb x List.mem_cons_self a σ S h
    obtain ⟨σ', S', e3, h3⟩ := forGo_fold I f xs (f a x) σ2 S2 h2 fun y hy => hb y (List.mem_cons_of_mem _ hy)
    refine ⟨σ', S', ?_, h3⟩
    rw [forGo, e1]
    show ((body σ1 S).andThen fun σ1 S1 => forGo tg body xs σ1 S1) = _
    rw [e2]
    exact e3
/-- .. with the place -/
theorem forGo_ix {tg : Tg} {body : DEnv → Store → R (Fl × DEnv)} (I : Nat → DEnv → Store → Prop) : ∀ (xs : List D) (σ : DEnv) (S : Store), I 0 σ S → (∀ i x σ S, xs[i]? = some x → I i σ S → ∃ σ1 σ2 S2, bindT tg x σ = some σ1 ∧ body σ1 S = .ok (.nx, σ2) S2 ∧ I (i + 1) σ2 S2) →
    ∃ σ' S', forGo tg body xs σ S = .ok (.nx, σ') S' ∧ I xs.length σ' S'
  | [], σ, S, h, _ => ⟨σ, S, rfl, h⟩
  | x :: xs, σ, S, h, hb => by
    obtain ⟨σ1, σ2, S2, e1, e2, h2⟩ := hb 0 x σ S rfl h
    obtain ⟨σ', S', e3, h3⟩ := forGo_ix (tg := tg) (body := body) (fun i => I (i + 1)) xs σ2 S2 h2 fun i y σ S hy hi => hb (i + 1) y σ S (by rw [List.getElem?_cons_succ]; exact hy) hi
    refine ⟨σ', S', ?_, h3⟩
    rw [forGo, e1]
    show ((body σ1 S).andThen fun σ1 S1 => forGo tg body xs σ1 S1) = _
    rw [e2]
    exact e3
theorem ints_at {lo : Int} {n i : Nat} {x : D} (h : (DD.intsFrom lo n)[i]? = some x) : i < n ∧ x = .int (lo + i) := by
  unfold DD.intsFrom at h
  rw [List.getElem?_map] at h
  obtain ⟨j, h1, h2⟩ := Option.map_eq_some_iff.mp h
  have hi : i < n := by
    have := (List.getElem?_eq_some_iff.mp h1).1
    simpa using this
  rw [List.getElem?_range hi] at h1
  cases h1
  exact ⟨hi, h2.symm⟩
theorem ints_len (lo : Int) (n : Nat) : (DD.intsFrom lo n).length = n := by
  unfold DD.intsFrom
  simp
theorem sizeLine_big : 2000000 ≤ sizeLine := by decide
/-- a comprehension whose elements are known, no test -/
theorem compGo_map {α : Type} {tg : Tg} {elt : DEnv → Store → R D} {σ : DEnv} {S : Store} (inj : α → D) (f : α → D) : ∀ xs : List α, (∀ x ∈ xs, ∃ σ1, bindT tg (inj x) σ = some σ1 ∧ elt σ1 S = .ok (f x) S) → compGo tg (fun _ S => .ok true S) elt (xs.map inj) σ S = .ok (xs.map f) S
  | [], _ => rfl
  | x :: xs, h => by
    obtain ⟨σ1, e1, e2⟩ := h x List.mem_cons_self
    have ih := compGo_map (tg := tg) (elt := elt) (σ := σ) (S := S) inj f xs fun y hy => h y (List.mem_cons_of_mem _ hy)
    rw [List.map_cons, compGo, e1]
    simp only [R.bind_ok, if_true, e2, ih]
    rfl
end DD

namespace K10
open PySem PySem.Spec PyProof.Rows L2 DD
def topS (i : Nat) : Stmt := PySem.Challenge.pw_deltahouse_k10_a_row_passes.main.body.getD i (.Pass ⟨0, 0, 0, 0⟩)
def bn : List Str := ["bool", "isinstance", "len", "range", "tuple"]
/-- passes: 0=row 1=check 2=place 3=word 4=number -/
def b0 : DD.St := (.seq (.set (.tup (.cons (.nm 2) (.cons (.nm 3) (.cons (.nm 4) .nil)))) (.var 1))
 (.seq (.ite (.cmp .eq (.var 3) (.str "is")) (.seq (.ret (.cmp .eq (.idx (.var 0) (.var 2)) (.var 4)))
 .nop) .nop)
 (.seq (.ite (.cmp .eq (.var 3) (.str "below")) (.seq (.ret (.cmp .lt (.idx (.var 0) (.var 2)) (.var 4)))
 .nop) .nop)
 (.seq (.ite (.cmp .eq (.var 3) (.str "above")) (.seq (.ret (.cmp .gt (.idx (.var 0) (.var 2)) (.var 4)))
 .nop) .nop)
 (.seq (.ret (.cmp .eq (.idx (.var 0) (.var 2)) (.idx (.var 0) (.var 4))))
 .nop)))))
def d0 : FD := ⟨"passes", topS 1, ["row", "check", "place", "word", "number"], ["row", "check"], b0⟩
/-- _law_stream: 0=_law_cell 1=_law_many 2=_law_found 3=_law_number_here 4=_law_k -/
def b1 : DD.St := (.seq (.set (.nm 2) (.lst true .nil))
 (.seq (.set (.nm 3) (.bin .add false (.bin .mod false (.var 0) (.int 2147483647)) (.int 48271)))
 (.seq (.for (.nm 4) (.iter .range1 (.cons (.bin .add false (.var 1) (.int 1)) .nil)) (.seq (.set (.nm 3) (.bin .mod false (.bin .add false (.bin .add false (.bin .mul false (.var 3) (.var 3)) (.bin .mul false (.int 48271) (.var 3))) (.var 4)) (.int 2147483647)))
 (.seq (.expr (.meth .append false (.var 2) (.cons (.var 3) .nil)))
 .nop)))
 (.seq (.ret (.slice false (.var 2) (.int 1) .no))
 .nop))))
def d1 : FD := ⟨"_law_stream", topS 3, ["_law_cell", "_law_many", "_law_found", "_law_number_here", "_law_k"], ["_law_cell", "_law_many"], b1⟩
/-- _law_row: 0=_law_xs 1=_law_width 2=_law_span 3=_law_far 4=_law_row_here 5=_law_at 6=_law_k -/
def b2 : DD.St := (.seq (.set (.nm 1) (.bin .add false (.int 1) (.bin .mod false (.idx (.var 0) (.int 0)) (.int 8))))
 (.seq (.set (.nm 2) (.idx (.lst false (.cons (.int 3) (.cons (.int 12) (.cons (.int 2000003) .nil)))) (.bin .mod false (.idx (.var 0) (.int 1)) (.int 3))))
 (.seq (.set (.nm 3) (.idx (.lst false (.cons (.int 0) (.cons (.int 0) (.cons (.bin .pow false (.int 10) (.int 59)) (.cons (.bin .sub false (.int 0) (.bin .pow false (.bin .pow false (.int 10) (.int 33)) (.int 6))) (.cons (.bin .pow false (.bin .pow false (.int 7) (.int 58)) (.int 4)) .nil)))))) (.bin .mod false (.idx (.var 0) (.int 2)) (.int 5))))
 (.seq (.set (.nm 4) (.comp false (.bin .add false (.bin .sub false (.bin .mod false (.idx (.var 0) (.bin .add false (.int 4) (.var 6))) (.var 2)) (.int 1)) (.var 3)) (.nm 6) (.iter .range1 (.cons (.var 1) .nil)) .nil [6]))
 (.seq (.ite (.cmp .eq (.bin .mod false (.idx (.var 0) (.int 3)) (.int 3)) (.int 1)) (.seq (.set (.nm 5) (.bin .mod false (.bin .fdiv false (.idx (.var 0) (.int 3)) (.int 3)) (.var 1)))
 (.seq (.set (.nm 4) (.comp false (.ite (.cmp .eq (.var 6) (.var 5)) (.idx (.var 4) (.var 5)) (.idx (.var 4) (.int 0))) (.nm 6) (.iter .range1 (.cons (.var 1) .nil)) .nil [6]))
 .nop)) .nop)
 (.seq (.ret (.prim .tuple false (.cons (.var 4) .nil)))
 .nop))))))
def d2 : FD := ⟨"_law_row", topS 4, ["_law_xs", "_law_width", "_law_span", "_law_far", "_law_row_here", "_law_at", "_law_k"], ["_law_xs"], b2⟩
/-- _law_number: 0=_law_xs 1=_law_row_here 2=_law_at 3=_law_near 4=_law_beside -/
def b3 : DD.St := (.seq (.set (.nm 3) (.bin .sub false (.bin .add false (.idx (.var 1) (.var 2)) (.bin .mod false (.idx (.var 0) (.int 14)) (.int 5))) (.int 2)))
 (.seq (.set (.nm 4) (.bin .sub false (.bin .add false (.idx (.var 1) (.bin .mod false (.idx (.var 0) (.int 15)) (.prim .len false (.cons (.var 1) .nil)))) (.bin .mod false (.bin .fdiv false (.idx (.var 0) (.int 14)) (.int 5)) (.int 3))) (.int 1)))
 (.seq (.ret (.idx (.lst false (.cons (.var 3) (.cons (.var 3) (.cons (.idx (.var 1) (.var 2)) (.cons (.bin .sub false (.int 0) (.idx (.var 1) (.var 2))) (.cons (.var 4) .nil)))))) (.bin .mod false (.idx (.var 0) (.int 13)) (.int 5))))
 .nop)))
def d3 : FD := ⟨"_law_number", topS 5, ["_law_xs", "_law_row_here", "_law_at", "_law_near", "_law_beside"], ["_law_xs", "_law_row_here", "_law_at"], b3⟩
/-- _law_alike: 0=_law_found 1=_law_due -/
def b4 : DD.St := (.seq (.ret (.and (.prim (.isinst .bool) false (.cons (.var 0) .nil)) (.cmp .eq (.var 0) (.var 1))))
 .nop)
def d4 : FD := ⟨"_law_alike", topS 6, ["_law_found", "_law_due"], ["_law_found", "_law_due"], b4⟩
/-- law: 0=_law_script 1=_law_cell 2=_law_xs 3=_law_row_here 4=_law_at 5=_law_other 6=_law_number_here 7=_law_here 8=_law_word 9=_law_due -/
def b5 : DD.St := (.seq (.for (.nm 1) (.bin .add false (.slice false (.var 0) .no (.int 40)) (.lst false (.cons (.int 11) .nil))) (.seq (.set (.nm 2) (.call 1 false (.cons (.var 1) (.cons (.int 16) .nil))))
 (.seq (.set (.nm 3) (.call 2 false (.cons (.var 2) .nil)))
 (.seq (.set (.nm 4) (.bin .mod false (.idx (.var 2) (.int 12)) (.prim .len false (.cons (.var 3) .nil))))
 (.seq (.set (.nm 5) (.bin .mod false (.bin .fdiv false (.idx (.var 2) (.int 12)) (.int 8)) (.prim .len false (.cons (.var 3) .nil))))
 (.seq (.set (.nm 6) (.call 3 false (.cons (.var 2) (.cons (.var 3) (.cons (.var 4) .nil)))))
 (.seq (.set (.nm 7) (.idx (.var 3) (.var 4)))
 (.seq (.for (.tup (.cons (.nm 8) (.cons (.nm 9) .nil))) (.lst false (.cons (.tup (.cons (.str "is") (.cons (.cmp .eq (.var 7) (.var 6)) .nil))) (.cons (.tup (.cons (.str "below") (.cons (.cmp .lt (.var 7) (.var 6)) .nil))) (.cons (.tup (.cons (.str "above") (.cons (.cmp .gt (.var 7) (.var 6)) .nil))) .nil)))) (.seq (.ite (.not (.call 4 false (.cons (.call 0 false (.cons (.var 3) (.cons (.tup (.cons (.var 4) (.cons (.var 8) (.cons (.var 6) .nil)))) .nil))) (.cons (.var 9) .nil)))) (.seq (.ret (.bl false))
 .nop) .nop)
 .nop))
 (.seq (.ite (.not (.call 4 false (.cons (.call 0 false (.cons (.var 3) (.cons (.tup (.cons (.var 4) (.cons (.str "same") (.cons (.var 5) .nil)))) .nil))) (.cons (.cmp .eq (.var 7) (.idx (.var 3) (.var 5))) .nil)))) (.seq (.ret (.bl false))
 .nop) .nop)
 (.seq (.ite (.not (.call 4 false (.cons (.call 0 false (.cons (.var 3) (.cons (.tup (.cons (.var 5) (.cons (.str "same") (.cons (.var 4) .nil)))) .nil))) (.cons (.cmp .eq (.var 7) (.idx (.var 3) (.var 5))) .nil)))) (.seq (.ret (.bl false))
 .nop) .nop)
 .nop))))))))))
 (.seq (.ret (.bl true))
 .nop))
def d5 : FD := ⟨"law", topS 7, ["_law_script", "_law_cell", "_law_xs", "_law_row_here", "_law_at", "_law_other", "_law_number_here", "_law_here", "_law_word", "_law_due"], ["_law_script"], b5⟩
def T : Tab := [d0, d1, d2, d3, d4, d5]
theorem T_chk : T.chk bn = true := by decide +kernel
abbrev cx (l : Nat) : Cxt := cxt T.fn 0 l
theorem stream_step (l : Nat) (c : Int) (n : Int) (hn0 : 0 ≤ n) (hn : n ≤ 1000) (a : Nat) (z : Int) (ns : List Int) (k : Option D) (e1 : ns.length = a) (ha : a < (n + 1).toNat) (hz0 : 0 ≤ z) (hz1 : z < 2 ^ 33) :
    evalS (cx l) (.seq (.set (.nm 3) (.bin .mod false (.bin .add false (.bin .add false (.bin .mul false (.var 3) (.var 3)) (.bin .mul false (.int 48271) (.var 3))) (.var 4)) (.int 2147483647)))
      (.seq (.expr (.meth .append false (.var 2) (.cons (.var 3) .nil))) .nop)) [some (.int c), some (.int n), some (.ref 0), some (.int z), some (.int (0 + a))] [.lst (ns.map D.int)] =
    .ok (.nx, [some (.int c), some (.int n), some (.ref 0), some (.int ((z * z + 48271 * z + (0 + a)) % 2147483647)), some (.int (0 + a))]) [.lst ((ns ++ [(z * z + 48271 * z + (0 + a)) % 2147483647]).map D.int)] := by
  have m1 : mulOk z z = true := mul_small hz0 (by omega)
  have m2 : mulOk 48271 z = true := mul_small (by decide) (by decide)
  have hz := sizeLine_big
  have hl : ns.length < sizeLine := by omega
  simp [m1, m2, Me.recv, D.list?, Ob.inner, meth, okIf, hl]
theorem rng (n : Int) (hn0 : 0 ≤ n) (hn : n ≤ 1000) (S : Store) : itK .range1 [.int (n + 1)] S = .ok (DD.intsFrom 0 (n + 1).toNat) S := by
  have hz := sizeLine_big
  exact it_range1 (j := n + 1) (by omega) (by omega) S
theorem stream_loop (l : Nat) (c : Int) (n : Int) (hn0 : 0 ≤ n) (hn : n ≤ 1000) : ∃ (z : Int) (ns : List Int) (k : Option D), ns.length = (n + 1).toNat ∧ (∀ y ∈ ns, 0 ≤ y ∧ y < 2147483647) ∧
    forGo (.nm 4) (evalS (cx l) (.seq (.set (.nm 3) (.bin .mod false (.bin .add false (.bin .add false (.bin .mul false (.var 3) (.var 3)) (.bin .mul false (.int 48271) (.var 3))) (.var 4)) (.int 2147483647)))
      (.seq (.expr (.meth .append false (.var 2) (.cons (.var 3) .nil))) .nop))) (DD.intsFrom 0 (n + 1).toNat) [some (.int c), some (.int n), some (.ref 0), some (.int (c % 2147483647 + 48271)), none] [.lst []] = .ok (.nx, [some (.int c), some (.int n), some (.ref 0), some (.int z), k]) [.lst (ns.map D.int)] := by
  have h0 := Int.emod_nonneg c (show (2147483647 : Int) ≠ 0 by decide)
  have h1 := Int.emod_lt_of_pos c (show (0 : Int) < 2147483647 by decide)
  have hz := sizeLine_big
  obtain ⟨σ', S', e, z, ns, k, e1, hz0, hz1, hall, rfl, rfl⟩ := forGo_ix (tg := .nm 4) (body := evalS (cx l) (.seq (.set (.nm 3) (.bin .mod false (.bin .add false (.bin .add false (.bin .mul false (.var 3) (.var 3)) (.bin .mul false (.int 48271) (.var 3))) (.var 4)) (.int 2147483647)))
      (.seq (.expr (.meth .append false (.var 2) (.cons (.var 3) .nil))) .nop)))
    (fun a σ S => ∃ (z : Int) (ns : List Int) (k : Option D), ns.length = a ∧ 0 ≤ z ∧ z < 2 ^ 33 ∧ (∀ y ∈ ns, 0 ≤ y ∧ y < 2147483647) ∧ σ = [some (.int c), some (.int n), some (.ref 0), some (.int z), k] ∧ S = [.lst (ns.map D.int)])
    (DD.intsFrom 0 (n + 1).toNat) [some (.int c), some (.int n), some (.ref 0), some (.int (c % 2147483647 + 48271)), none] [.lst []]
    ⟨c % 2147483647 + 48271, [], none, rfl, by omega, by omega, by simp, rfl, rfl⟩ (by
      rintro a x σ S hx ⟨z, ns, k, e1, hz0, hz1, hall, rfl, rfl⟩
      obtain ⟨hi, rfl⟩ := ints_at hx
      have g0 := Int.emod_nonneg (z * z + 48271 * z + (0 + a)) (show (2147483647 : Int) ≠ 0 by decide)
      have g1 := Int.emod_lt_of_pos (z * z + 48271 * z + (0 + a)) (show (0 : Int) < 2147483647 by decide)
      have m1 : mulOk z z = true := mul_small hz0 (by omega)
      have m2 : mulOk 48271 z = true := mul_small (by decide) (by decide)
      have hl : ns.length < sizeLine := by omega
      refine ⟨[some (.int c), some (.int n), some (.ref 0), some (.int z), some (.int (0 + a))], [some (.int c), some (.int n), some (.ref 0), some (.int ((z * z + 48271 * z + (0 + a)) % 2147483647)), some (.int (0 + a))], [.lst ((ns ++ [(z * z + 48271 * z + (0 + a)) % 2147483647]).map D.int)], rfl, ?_, (z * z + 48271 * z + (0 + a)) % 2147483647, ns ++ [(z * z + 48271 * z + (0 + a)) % 2147483647], some (.int (0 + a)), by simp [e1], g0, by omega, ?_, rfl, rfl⟩
      · exact stream_step l c n hn0 hn a z ns k e1 hi hz0 hz1
      · intro y hy
        rcases List.mem_append.mp hy with hy | hy
        · exact hall y hy
        · rw [List.mem_singleton.mp hy]; exact ⟨g0, g1⟩)
  rw [ints_len] at e1
  exact ⟨z, ns, k, e1, hall, e⟩
theorem T1 : T.fn 1 = some d1.fn := rfl
theorem stream_run (l : Nat) (c : Int) (n : Int) (hn0 : 0 ≤ n) (hn : n ≤ 1000) (z : Int) (ns : List Int) (k : Option D) (e : forGo (.nm 4) (evalS (cx l) (.seq (.set (.nm 3) (.bin .mod false (.bin .add false (.bin .add false (.bin .mul false (.var 3) (.var 3)) (.bin .mul false (.int 48271) (.var 3))) (.var 4)) (.int 2147483647)))
      (.seq (.expr (.meth .append false (.var 2) (.cons (.var 3) .nil))) .nop))) (DD.intsFrom 0 (n + 1).toNat) [some (.int c), some (.int n), some (.ref 0), some (.int (c % 2147483647 + 48271)), none] [.lst []] = .ok (.nx, [some (.int c), some (.int n), some (.ref 0), some (.int z), k]) [.lst (ns.map D.int)]) :
    evalS (cx l) b1 [some (.int c), some (.int n), none, none, none] [] = .ok (.rt (.lst (ns.map D.int).tail), [some (.int c), some (.int n), some (.ref 0), some (.int z), k]) [.lst (ns.map D.int)] := by
  have er := rng n hn0 hn
  have ec : cutD (ns.map D.int) (some 1) none = (ns.map D.int).tail := (cutD_from _ 1).trans List.drop_one
  simp [b1, okIf, lockOf, lockRun, er, e, sl_ref, ec]
theorem stream_ok (l : Nat) (c : Int) (n : Int) (hn0 : 0 ≤ n) (hn : n ≤ 1000) : ∃ ns : List Int, ns.length = n.toNat ∧ (∀ z ∈ ns, 0 ≤ z ∧ z < 2147483647) ∧ (cx (l + 1)).call 1 [.int c, .int n] = .val (.lst (ns.map D.int)) := by
  obtain ⟨z, ns, k, e1, hall, e⟩ := stream_loop l c n hn0 hn
  refine ⟨ns.tail, by rw [List.length_tail, e1]; omega, fun z hz => hall z (List.mem_of_mem_tail hz), ?_⟩
  rw [call_step T1]
  have q := stream_run l c n hn0 hn z ns k e
  refine run_rt rfl q ?_
  rw [List.map_tail]
  exact finish_val (by rw [← List.map_tail]; exact noRefs_ints _) _
def pick5 (a b c d e k : Int) : Int := [a, b, c, d, e].getD k.toNat 0
theorem at5 {a b c d e k : Int} (h0 : 0 ≤ k) (h1 : k < 5) : L2.atI [D.int a, D.int b, D.int c, D.int d, D.int e] k = some (.int (pick5 a b c d e k)) := atI_ints (ns := [a, b, c, d, e]) h0 h1
theorem at3 {a b c k : Int} (h0 : 0 ≤ k) (h1 : k < 3) : L2.atI [D.int a, D.int b, D.int c] k = some (.int ([a, b, c].getD k.toNat 0)) := atI_ints (ns := [a, b, c]) h0 h1
theorem alike_ok (l : Nat) (a b : Bool) : (cx (l + 1)).call 4 [.bl a, .bl b] = .val (.bl (a == b)) := by
  rw [call_step (fn := d4.fn) rfl]
  refine run_rt (σ := [some (.bl a), some (.bl b)]) (S := []) rfl ?_ (finish_val rfl _)
  show evalS (cx l) b4 [some (.bl a), some (.bl b)] [] = _
  simp [b4, Ty.sub]
theorem is_words (S : Store) : cmpop .eq S (.str "is") (.str "is") = some true ∧ cmpop .eq S (.str "below") (.str "is") = some false ∧ cmpop .eq S (.str "below") (.str "below") = some true ∧ cmpop .eq S (.str "above") (.str "is") = some false ∧ cmpop .eq S (.str "above") (.str "below") = some false ∧ cmpop .eq S (.str "above") (.str "above") = some true ∧
    cmpop .eq S (.str "same") (.str "is") = some false ∧ cmpop .eq S (.str "same") (.str "below") = some false ∧ cmpop .eq S (.str "same") (.str "above") = some false := by
  refine ⟨?_, ?_, ?_, ?_, ?_, ?_, ?_, ?_, ?_⟩ <;> exact co_words S (by decide +kernel)
theorem passes_ok (l : Nat) (rs : List Int) (p n y : Int) (e : L2.atI (rs.map D.int) p = some (.int y)) :
    (cx (l + 1)).call 0 [.tup (rs.map D.int), .tup [.int p, .str "is", .int n]] = .val (.bl (decide (y = n))) ∧
    (cx (l + 1)).call 0 [.tup (rs.map D.int), .tup [.int p, .str "below", .int n]] = .val (.bl (decide (y < n))) ∧
    (cx (l + 1)).call 0 [.tup (rs.map D.int), .tup [.int p, .str "above", .int n]] = .val (.bl (decide (n < y))) ∧
    (∀ y2, L2.atI (rs.map D.int) n = some (.int y2) → (cx (l + 1)).call 0 [.tup (rs.map D.int), .tup [.int p, .str "same", .int n]] = .val (.bl (decide (y = y2)))) := by
  have w := is_words
  refine ⟨?_, ?_, ?_, fun y2 e2 => ?_⟩ <;> rw [call_step (fn := d0.fn) rfl]
  · refine run_rt (σ := [some (.tup (rs.map D.int)), some (.tup [.int p, .str "is", .int n]), some (.int p), some (.str "is"), some (.int n)]) (S := []) rfl ?_ (finish_val rfl _)
    show evalS (cx l) b0 [some (.tup (rs.map D.int)), some (.tup [.int p, .str "is", .int n]), none, none, none] [] = _
    simp [b0, bindR, bindT, bindTs, w, e]
  · refine run_rt (σ := [some (.tup (rs.map D.int)), some (.tup [.int p, .str "below", .int n]), some (.int p), some (.str "below"), some (.int n)]) (S := []) rfl ?_ (finish_val rfl _)
    show evalS (cx l) b0 [some (.tup (rs.map D.int)), some (.tup [.int p, .str "below", .int n]), none, none, none] [] = _
    simp [b0, bindR, bindT, bindTs, w, e]
  · refine run_rt (σ := [some (.tup (rs.map D.int)), some (.tup [.int p, .str "above", .int n]), some (.int p), some (.str "above"), some (.int n)]) (S := []) rfl ?_ (finish_val rfl _)
    show evalS (cx l) b0 [some (.tup (rs.map D.int)), some (.tup [.int p, .str "above", .int n]), none, none, none] [] = _
    simp [b0, bindR, bindT, bindTs, w, e]
  · refine run_rt (σ := [some (.tup (rs.map D.int)), some (.tup [.int p, .str "same", .int n]), some (.int p), some (.str "same"), some (.int n)]) (S := []) rfl ?_ (finish_val rfl _)
    show evalS (cx l) b0 [some (.tup (rs.map D.int)), some (.tup [.int p, .str "same", .int n]), none, none, none] [] = _
    simp [b0, bindR, bindT, bindTs, w, e, e2]
theorem at16 (xs : List Int) (hl : xs.length = 16) (hb : ∀ z ∈ xs, 0 ≤ z ∧ z < 2147483647) : ∃ X : Int → Int, ∀ k : Int, 0 ≤ k → k < 16 → L2.atI (xs.map D.int) k = some (.int (X k)) ∧ 0 ≤ X k ∧ X k < 2147483647 := by
  obtain ⟨X, hX⟩ := ints_fn xs
  refine ⟨X, fun k a b => ?_⟩
  obtain ⟨e, m⟩ := hX k a (by omega)
  exact ⟨e, hb _ m⟩
theorem number_ok (l : Nat) (xs rs : List Int) (p L : Int) (hl : xs.length = 16) (hb : ∀ z ∈ xs, 0 ≤ z ∧ z < 2147483647) (hL : (rs.length : Int) = L) (h0 : 0 ≤ p) (h1 : p < L) : ∃ n : Int, (cx (l + 1)).call 3 [.lst (xs.map D.int), .tup (rs.map D.int), .int p] = .val (.int n) := by
  obtain ⟨X, hX⟩ := at16 xs hl hb
  obtain ⟨Y, hY⟩ := ints_fn rs
  rw [hL] at hY
  have ax : ∀ k : Int, 0 ≤ k → k < 16 → L2.atI (xs.map D.int) k = some (.int (X k)) := fun k a b => (hX k a b).1
  have ar : ∀ k : Int, 0 ≤ k → k < L → L2.atI (rs.map D.int) k = some (.int (Y k)) := fun k a b => (hY k a b).1
  have hr : 0 < L := by omega
  have g1 := Int.emod_nonneg (X 15) (show L ≠ 0 by omega)
  have g2 := Int.emod_lt_of_pos (X 15) hr
  have g3 := Int.emod_nonneg (X 13) (show (5 : Int) ≠ 0 by decide)
  have g4 := Int.emod_lt_of_pos (X 13) (show (0 : Int) < 5 by decide)
  have dv : divOk 5 = true := by decide
  have z5 : 5 ≤ sizeLine := by have := sizeLine_big; omega
  obtain ⟨n, σ', q⟩ : ∃ n σ', evalS (cx l) b3 [some (.lst (xs.map D.int)), some (.tup (rs.map D.int)), some (.int p), none, none] [] = .ok (.rt (.int n), σ') [] := by
    simp [b3, ax, ar, h0, h1, hL, hr, g1, g2, g3, g4, okIf, dv, at5, z5]
  rw [call_step (fn := d3.fn) rfl]
  exact ⟨n, run_rt rfl q (finish_val rfl _)⟩
theorem row_ok (l : Nat) (xs : List Int) (hl : xs.length = 16) (hb : ∀ z ∈ xs, 0 ≤ z ∧ z < 2147483647) : ∃ rs : List Int, 1 ≤ rs.length ∧ rs.length ≤ 8 ∧ (cx (l + 1)).call 2 [.lst (xs.map D.int)] = .val (.tup (rs.map D.int)) := by
  obtain ⟨X, hX⟩ := at16 xs hl hb
  have ax : ∀ k : Int, 0 ≤ k → k < 16 → L2.atI (xs.map D.int) k = some (.int (X k)) := fun k a b => (hX k a b).1
  have hs := sizeLine_big
  generalize hw : 1 + X 0 % 8 = w
  have a1 := Int.emod_nonneg (X 0) (show (8 : Int) ≠ 0 by decide)
  have a2 := Int.emod_lt_of_pos (X 0) (show (0 : Int) < 8 by decide)
  have g1 := Int.emod_nonneg (X 1) (show (3 : Int) ≠ 0 by decide)
  have g2 := Int.emod_lt_of_pos (X 1) (show (0 : Int) < 3 by decide)
  have g3 := Int.emod_nonneg (X 2) (show (5 : Int) ≠ 0 by decide)
  have g4 := Int.emod_lt_of_pos (X 2) (show (0 : Int) < 5 by decide)
  have w1 : 1 ≤ w := by omega
  have w0 : 0 < w := by omega
  have w2 : w ≤ 8 := by omega
  have f1 := Int.emod_nonneg (X 3 / 3) (show w ≠ 0 by omega)
  have f2 := Int.emod_lt_of_pos (X 3 / 3) w0
  have p1 : powOk 10 59 = true := by decide +kernel
  have p2 : powOk 10 33 = true := by decide +kernel
  have p3 : powOk 1000000000000000000000000000000000 6 = true := by decide +kernel
  have p4 : powOk 7 58 = true := by decide +kernel
  have p5 : powOk 10367793076318844190248738727596255138212949486449 4 = true := by decide +kernel
  have dv : divOk 3 = true := by decide
  have z5 : 5 ≤ sizeLine := by omega
  have z3 : 3 ≤ sizeLine := by omega
  have er : ∀ S, itK .range1 [.int w] S = .ok (DD.intsFrom 0 w.toNat) S := fun S => it_range1 (by omega) (by omega) S
  obtain ⟨sp, hsp, esp⟩ := atI_ex (ns := [3, 12, 2000003]) (k := X 1 % 3) g1 g2
  have esp : L2.atI [D.int 3, D.int 12, D.int 2000003] (X 1 % 3) = some (.int sp) := esp
  have sp0 : 0 < sp := by simp at hsp; omega
  -- the numbers of the row
  have comp : ∀ far : Int, ∃ rs : List Int, (rs.length : Int) = w ∧ compGo (.nm 6) (evalC (cx l) .nil) (evalE (cx l) (.bin .add false (.bin .sub false (.bin .mod false (.idx (.var 0) (.bin .add false (.int 4) (.var 6))) (.var 2)) (.int 1)) (.var 3))) (DD.intsFrom 0 w.toNat)
      [some (.lst (xs.map D.int)), some (.int w), some (.int sp), some (.int far), none, none, none] [] = .ok (rs.map D.int) [] := fun far => by
    refine ⟨(List.range w.toNat).map fun (k : Nat) => X (4 + (0 + (k : Int))) % sp - 1 + far, by simp; omega, ?_⟩
    rw [List.map_map]
    refine compGo_map (fun (k : Nat) => D.int (0 + (k : Int))) _ (List.range w.toNat) fun k hk => ⟨_, rfl, ?_⟩
    have hk := List.mem_range.mp hk
    have k0 : 0 ≤ 4 + (0 + (k : Int)) := by omega
    have k1 : 4 + (0 + (k : Int)) < 16 := by omega
    have e := ax _ k0 k1
    simp only [ev_bin, ev_idx, ev_var, ev_int, List.set, List.getElem?_cons_zero, List.getElem?_cons_succ, R.bind_ok, bo_add, bo_sub, bo_mod, ix_lst, e, ixR_some, sp0, decide_true, okIf_true]
    rfl
  obtain ⟨RS, hRS⟩ := Classical.axiomOfChoice comp
  -- the second writing
  have comp2 : ∀ (far at' : Int) (rs : List Int), (rs.length : Int) = w → 0 ≤ at' → at' < w → ∃ rs2 : List Int, (rs2.length : Int) = w ∧ compGo (.nm 6) (evalC (cx l) .nil) (evalE (cx l) (.ite (.cmp .eq (.var 6) (.var 5)) (.idx (.var 4) (.var 5)) (.idx (.var 4) (.int 0)))) (DD.intsFrom 0 w.toNat)
      [some (.lst (xs.map D.int)), some (.int w), some (.int sp), some (.int far), some (.lst (rs.map D.int)), some (.int at'), none] [] = .ok (rs2.map D.int) [] := fun far at' rs hr r0 r1 => by
    obtain ⟨Y, hY⟩ := ints_fn rs
    rw [hr] at hY
    refine ⟨(List.range w.toNat).map fun (k : Nat) => if (0 + (k : Int)) = at' then Y at' else Y 0, by simp; omega, ?_⟩
    rw [List.map_map]
    refine compGo_map (fun (k : Nat) => D.int (0 + (k : Int))) _ (List.range w.toNat) fun k hk => ⟨_, rfl, ?_⟩
    have e1 := (hY at' r0 r1).1
    have e2 := (hY 0 (by omega) (by omega)).1
    simp only [ev_ite, ev_cmp, ev_idx, ev_var, ev_int, List.set, List.getElem?_cons_zero, List.getElem?_cons_succ, R.bind_ok, co_eqI, blR_some, condR_bl, ix_lst, e1, e2, ixR_some]
    by_cases h : (0 + (k : Int)) = at'
    · simp only [h, eq_self, decide_true, if_true, Function.comp_apply]
    · simp only [h, decide_false, if_false, Bool.false_eq_true, Function.comp_apply]
  obtain ⟨RS2, hRS2⟩ := Classical.axiomOfChoice fun far => comp2 far (X 3 / 3 % w) (RS far) (hRS far).1 f1 f2
  have q1 := fun far => (hRS far).2
  have q2 := fun far => (hRS2 far).2
  obtain ⟨rs, σ', c1, q⟩ : ∃ (rs : List Int) (σ' : DEnv), (rs.length : Int) = w ∧ evalS (cx l) b2 [some (.lst (xs.map D.int)), none, none, none, none, none, none] [] = .ok (.rt (.tup (rs.map D.int)), σ') [] := by
    simp only [cx] at q1 q2
    by_cases hc : X 3 % 3 = 1
    · simp [b2, ax, hw, esp, z3, z5, okIf, p1, p2, p3, p4, p5, dv, at5, g3, g4, er, lockOf, lockRun, wipeD, hc, w0, q1, q2, noExc]
      exact ⟨_, (hRS2 _).1, rfl⟩
    · simp [b2, ax, hw, esp, z3, z5, okIf, p1, p2, p3, p4, p5, dv, at5, g3, g4, er, lockOf, lockRun, wipeD, hc, w0, q1, q2, noExc]
      exact ⟨_, (hRS _).1, rfl⟩
  refine ⟨rs, by omega, by omega, ?_⟩
  rw [call_step (fn := d2.fn) rfl]
  exact run_rt rfl q (finish_val (d := .tup _) (by rw [D.noRef]; exact noRefs_ints _) _)
def itOf : DD.St → DD.E
  | .seq (.for _ it _) _ => it | _ => .no
def bodyOf : DD.St → DD.St
  | .seq (.for _ _ b) _ => b | s => s
theorem body_ok (l : Nat) (sc : D) (c : Int) (v2 v3 v4 v5 v6 v7 v8 v9 : Option D) : ∃ w2 w3 w4 w5 w6 w7 w8 w9 : Option D, evalS (cx (l + 1)) (bodyOf b5) [some sc, some (.int c), v2, v3, v4, v5, v6, v7, v8, v9] [] = .ok (.nx, [some sc, some (.int c), w2, w3, w4, w5, w6, w7, w8, w9]) [] := by
  obtain ⟨xs, hl, hb, hx⟩ := stream_ok l c 16 (by decide) (by decide)
  have hl : xs.length = 16 := hl
  obtain ⟨rs, r1, r2, hr⟩ := row_ok l xs hl hb
  obtain ⟨X, hX⟩ := at16 xs hl hb
  obtain ⟨Y, hY⟩ := ints_fn rs
  generalize hL : (rs.length : Int) = L at hY
  have L0 : 0 < L := by omega
  have ax : ∀ k : Int, 0 ≤ k → k < 16 → L2.atI (xs.map D.int) k = some (.int (X k)) := fun k a b => (hX k a b).1
  have ar : ∀ k : Int, 0 ≤ k → k < L → L2.atI (rs.map D.int) k = some (.int (Y k)) := fun k a b => (hY k a b).1
  have p0 := Int.emod_nonneg (X 12) (show L ≠ 0 by omega)
  have p1 := Int.emod_lt_of_pos (X 12) L0
  have o0 := Int.emod_nonneg (X 12 / 8) (show L ≠ 0 by omega)
  have o1 := Int.emod_lt_of_pos (X 12 / 8) L0
  obtain ⟨n, hn⟩ := number_ok l xs rs (X 12 % L) L hl hb hL p0 p1
  have dv : divOk 8 = true := by decide
  have hs := sizeLine_big
  have z3 : 3 ≤ sizeLine := by omega
  have z2 : 2 ≤ sizeLine := by omega
  have nx : D.noRefs [.lst (xs.map D.int)] = true := by rw [D.noRefs, D.noRef, noRefs_ints]; rfl
  have nr : D.noRefs [.lst (xs.map D.int), .tup (rs.map D.int), .int (X 12 % L)] = true := by rw [D.noRefs, D.noRefs, D.noRef, D.noRef, noRefs_ints, noRefs_ints]; rfl
  have c1 := fun S => callR_ok (m := false) (S := S) (xs := [.int c, .int 16]) rfl hx
  have c2 := fun S => callR_ok (m := false) (S := S) nx hr
  have c3 := fun S => callR_ok (m := false) (S := S) nr hn
  have c4 := fun (a b : Bool) S => callR_ok (m := false) (S := S) (xs := [.bl a, .bl b]) rfl (alike_ok l a b)
  have np : ∀ (a b : Int) (w : Str), D.noRefs [.tup (rs.map D.int), .tup [.int a, .str w, .int b]] = true := fun a b w => by rw [D.noRefs, D.noRef, noRefs_ints]; rfl
  obtain ⟨q1, q2, q3, _⟩ := passes_ok l rs (X 12 % L) n (Y (X 12 % L)) (ar _ p0 p1)
  have q4 := (passes_ok l rs (X 12 % L) (X 12 / 8 % L) (Y (X 12 % L)) (ar _ p0 p1)).2.2.2 _ (ar _ o0 o1)
  have q5 := (passes_ok l rs (X 12 / 8 % L) (X 12 % L) (Y (X 12 / 8 % L)) (ar _ o0 o1)).2.2.2 _ (ar _ p0 p1)
  have d1 := fun S => callR_ok (m := false) (S := S) (np _ _ _) q1
  have d2 := fun S => callR_ok (m := false) (S := S) (np _ _ _) q2
  have d3 := fun S => callR_ok (m := false) (S := S) (np _ _ _) q3
  have d4 := fun S => callR_ok (m := false) (S := S) (np _ _ _) q4
  have d5 := fun S => callR_ok (m := false) (S := S) (np _ _ _) q5
  have sym : decide (Y (X 12 / 8 % L) = Y (X 12 % L)) = decide (Y (X 12 % L) = Y (X 12 / 8 % L)) := by
    by_cases h : Y (X 12 / 8 % L) = Y (X 12 % L)
    · rw [h]
    · rw [decide_eq_false h, decide_eq_false fun z => h z.symm]
  simp only [cx] at c1 c2 c3 c4 d1 d2 d3 d4 d5
  simp [bodyOf, b5, c1, c2, c3, c4, ax, ar, hL, L0, p0, p1, o0, o1, dv, okIf, z2, z3, lockOf, lockRun, walkI, itemsOf, forGo, bindT, bindTs, d1, d2, d3, d4, d5, sym]
theorem law_ok (ns : List Int) (h : ns.length ≤ 63) : (cx 9).call 5 [.lst (ns.map D.int)] = .val (.bl true) := by
  have hs := sizeLine_big
  rw [call_step (fn := d5.fn) rfl]
  have e2 : evalE (cx 8) (itOf b5) [some (.lst (ns.map D.int)), none, none, none, none, none, none, none, none, none] [] = .ok (.lst ((ns.take 40 ++ [11]).map D.int)) [] := by
    have z : min 40 ns.length + 1 ≤ sizeLine := by omega
    have ct : cutD (ns.map D.int) none (some 40) = (ns.take 40).map D.int := by rw [List.map_take]; exact cutD_to _ 40
    have z1 : 1 ≤ sizeLine := by omega
    simp [itOf, b5, okIf, ct, z, z1]
  obtain ⟨σ', S', e, hI⟩ := forGo_all (tg := .nm 1) (body := evalS (cx 8) (bodyOf b5)) (fun σ S => S = [] ∧ ∃ v1 v2 v3 v4 v5 v6 v7 v8 v9 : Option D, σ = [some (.lst (ns.map D.int)), v1, v2, v3, v4, v5, v6, v7, v8, v9]) ((ns.take 40 ++ [11]).map D.int) [some (.lst (ns.map D.int)), none, none, none, none, none, none, none, none, none] [] ⟨rfl, _, _, _, _, _, _, _, _, _, rfl⟩ (by
    rintro x hx σ S ⟨rfl, v1, v2, v3, v4, v5, v6, v7, v8, v9, rfl⟩
    obtain ⟨c, _, rfl⟩ := List.mem_map.mp hx
    obtain ⟨w2, w3, w4, w5, w6, w7, w8, w9, e⟩ := body_ok 7 (.lst (ns.map D.int)) c v2 v3 v4 v5 v6 v7 v8 v9
    exact ⟨_, _, [], rfl, e, rfl, _, _, _, _, _, _, _, _, _, rfl⟩)
  obtain ⟨rfl, _⟩ := hI
  have e3 : evalS (cx 8) b5 [some (.lst (ns.map D.int)), none, none, none, none, none, none, none, none, none] [] = .ok (.rt (.bl true), σ') [] := by
    show ((walkI (itOf b5) (evalE (cx 8) (itOf b5) _ [])).lift _ fun xs S1 => forGo (.nm 1) (evalS (cx 8) (bodyOf b5)) xs _ S1).andThen _ = _
    rw [e2]
    show (forGo (.nm 1) (evalS (cx 8) (bodyOf b5)) _ _ []).andThen _ = _
    rw [e]
    rfl
  exact run_rt rfl e3 (finish_val rfl _)
section
variable {w : World} {K : PySem.W.Frag} {h : Heap} {mg : Str → Option Value} {fa : Addr}
theorem all_mk (X : K.In h) (G : h.Ns mainGlobals mg) (hfa : mg "law" = some (.ref fa))
    {f0 f1 f2 f3 f4 f5 : Addr} {od0 an0 od1 an1 od2 an2 od3 an3 od4 an4 od5 an5 : Option Addr} {sl0 sl1 sl2 sl3 sl4 sl5 : Array (Option Value)} {oc0 kV0 dc0 pm0 cd0 ct0 oc1 kV1 dc1 pm1 cd1 ct1 oc2 kV2 dc2 pm2 cd2 ct2 oc3 kV3 dc3 pm3 cd3 ct3 oc4 kV4 dc4 pm4 cd4 ct4 oc5 kV5 dc5 pm5 cd5 ct5 : Value}
    (a0 : PySem.W.nsIn K mainGlobals "passes" = some (some (.ref f0)))
    (l0 : K.lookup f0 = some ⟨oc0, od0, .func (PySem.W.fnOf "passes" "passes" (defArgs (topS 1)) (defBody (topS 1)) (defScope (topS 1)) .none kV0 dc0 pm0 an0 cd0 ct0), sl0⟩)
    (c0 : PySem.W.codeIn K cd0 "passes" = true) (k0 : PySem.W.keepIn K (.ref f0) = true)
    (a1 : PySem.W.nsIn K mainGlobals "_law_stream" = some (some (.ref f1)))
    (l1 : K.lookup f1 = some ⟨oc1, od1, .func (PySem.W.fnOf "_law_stream" "_law_stream" (defArgs (topS 3)) (defBody (topS 3)) (defScope (topS 3)) .none kV1 dc1 pm1 an1 cd1 ct1), sl1⟩)
    (c1 : PySem.W.codeIn K cd1 "_law_stream" = true) (k1 : PySem.W.keepIn K (.ref f1) = true)
    (a2 : PySem.W.nsIn K mainGlobals "_law_row" = some (some (.ref f2)))
    (l2 : K.lookup f2 = some ⟨oc2, od2, .func (PySem.W.fnOf "_law_row" "_law_row" (defArgs (topS 4)) (defBody (topS 4)) (defScope (topS 4)) .none kV2 dc2 pm2 an2 cd2 ct2), sl2⟩)
    (c2 : PySem.W.codeIn K cd2 "_law_row" = true) (k2 : PySem.W.keepIn K (.ref f2) = true)
    (a3 : PySem.W.nsIn K mainGlobals "_law_number" = some (some (.ref f3)))
    (l3 : K.lookup f3 = some ⟨oc3, od3, .func (PySem.W.fnOf "_law_number" "_law_number" (defArgs (topS 5)) (defBody (topS 5)) (defScope (topS 5)) .none kV3 dc3 pm3 an3 cd3 ct3), sl3⟩)
    (c3 : PySem.W.codeIn K cd3 "_law_number" = true) (k3 : PySem.W.keepIn K (.ref f3) = true)
    (a4 : PySem.W.nsIn K mainGlobals "_law_alike" = some (some (.ref f4)))
    (l4 : K.lookup f4 = some ⟨oc4, od4, .func (PySem.W.fnOf "_law_alike" "_law_alike" (defArgs (topS 6)) (defBody (topS 6)) (defScope (topS 6)) .none kV4 dc4 pm4 an4 cd4 ct4), sl4⟩)
    (c4 : PySem.W.codeIn K cd4 "_law_alike" = true) (k4 : PySem.W.keepIn K (.ref f4) = true)
    (a5 : PySem.W.nsIn K mainGlobals "law" = some (some (.ref f5)))
    (l5 : K.lookup f5 = some ⟨oc5, od5, .func (PySem.W.fnOf "law" "law" (defArgs (topS 7)) (defBody (topS 7)) (defScope (topS 7)) .none kV5 dc5 pm5 an5 cd5 ct5), sl5⟩)
    (c5 : PySem.W.codeIn K cd5 "law" = true) (k5 : PySem.W.keepIn K (.ref f5) = true)
    (z0 : PySem.W.nsIn K mainGlobals "bool" = some none)
    (z1 : PySem.W.nsIn K mainGlobals "isinstance" = some none)
    (z2 : PySem.W.nsIn K mainGlobals "len" = some none)
    (z3 : PySem.W.nsIn K mainGlobals "range" = some none)
    (z4 : PySem.W.nsIn K mainGlobals "tuple" = some none)
    : ∃ fd : FuncData, (∀ (s : Shared) (v : Value), BindsTo s fd ⟨[v], []⟩ [("_law_script", v)]) ∧ ∀ base : Heap, K.In base → base.Ns mainGlobals mg →
      FnOk PySem.Challenge.rw_deltahouse_k10_a_row_passes.prog w K mg base (L2.CX PySem.Challenge.rw_deltahouse_k10_a_row_passes.prog w) 9 fa fd ["_law_script"] (spF K (fun _ => 0) 1 (cx 9) 5) := by
  have e := hfa.symm.trans (PySem.W.mg_of X G a5)
  cases e
  have F0 := fun_mk (st := topS 1) l0 c0 k0
  have b0 := F0.binds (ps := ["row", "check"]) fun _ _ _ _ _ _ us hl => match us, hl with | [_, _], _ => rfl
  have F1 := fun_mk (st := topS 3) l1 c1 k1
  have b1 := F1.binds (ps := ["_law_cell", "_law_many"]) fun _ _ _ _ _ _ us hl => match us, hl with | [_, _], _ => rfl
  have F2 := fun_mk (st := topS 4) l2 c2 k2
  have b2 := F2.binds (ps := ["_law_xs"]) fun _ _ _ _ _ _ us hl => match us, hl with | [_], _ => rfl
  have F3 := fun_mk (st := topS 5) l3 c3 k3
  have b3 := F3.binds (ps := ["_law_xs", "_law_row_here", "_law_at"]) fun _ _ _ _ _ _ us hl => match us, hl with | [_, _, _], _ => rfl
  have F4 := fun_mk (st := topS 6) l4 c4 k4
  have b4 := F4.binds (ps := ["_law_found", "_law_due"]) fun _ _ _ _ _ _ us hl => match us, hl with | [_, _], _ => rfl
  have F5 := fun_mk (st := topS 7) l5 c5 k5
  have b5 := F5.binds (ps := ["_law_script"]) fun _ _ _ _ _ _ us hl => match us, hl with | [_], _ => rfl
  have hb : ∀ x ∈ bn, mg x = none := by
    intro x hx
    simp only [bn, List.mem_cons, List.not_mem_nil, or_false] at hx
    rcases hx with rfl | rfl | rfl | rfl | rfl
    · exact PySem.W.mg_none_of X G z0
    · exact PySem.W.mg_none_of X G z1
    · exact PySem.W.mg_none_of X G z2
    · exact PySem.W.mg_none_of X G z3
    · exact PySem.W.mg_none_of X G z4
  have hat : ∀ d ∈ T, At K mg d := by
    intro d hd
    simp only [T, List.mem_cons, List.not_mem_nil, or_false] at hd
    rcases hd with rfl | rfl | rfl | rfl | rfl | rfl
    · exact At.of (d := d0) F0 (PySem.W.mg_of X G a0) b0
    · exact At.of (d := d1) F1 (PySem.W.mg_of X G a1) b1
    · exact At.of (d := d2) F2 (PySem.W.mg_of X G a2) b2
    · exact At.of (d := d3) F3 (PySem.W.mg_of X G a3) b3
    · exact At.of (d := d4) F4 (PySem.W.mg_of X G a4) b4
    · exact At.of (d := d5) F5 (PySem.W.mg_of X G a5) b5
  exact ⟨_, fun s v => .of_eq rfl, fun base _ _ => tab_step (T := T) (f := 5) hb T_chk (fun g hg => tab_ok hb T_chk hat 8 g hg) (by decide) F5⟩
end
end K10
open PySem PySem.W PyProof.Rows
set_option maxHeartbeats 0 in
theorem PySem.Challenge.cw_deltahouse_k10_a_row_passes_holds : PySem.Challenge.rw_deltahouse_k10_a_row_passes.Holds := by
  w_on; o_law; k_head; (case hw => w_witness2)
  k_fill
  refine L2.walk_of (l := PySem.Challenge.rw_deltahouse_k10_a_row_passes) (n := 63) (k := 9) (x := "_law_script") (CX := fun w => L2.CX PySem.Challenge.rw_deltahouse_k10_a_row_passes.prog w) (sp := fun w => DD.spF _ (fun _ => 0) 1 (K10.cx 9) 5) rfl (by decide) rfl ⟨rfl, by decide, by decide⟩ (fun w h Y => PySem.W.kIn_of Y) ?F (fun w H a ns hl _ hS => DD.sp_law (K10.law_ok ns hl) (Nat.le_trans hl (by decide)) hS) (fun _ _ _ _ _ h => DD.no_exc h)
  case F =>
    intro w mg fa h KX G hmg
    refine' K10.all_mk KX G hmg ?a0 ?l0 ?c0 ?k0 ?a1 ?l1 ?c1 ?k1 ?a2 ?l2 ?c2 ?k2 ?a3 ?l3 ?c3 ?k3 ?a4 ?l4 ?c4 ?k4 ?a5 ?l5 ?c5 ?k5 ?z0 ?z1 ?z2 ?z3 ?z4
    (case a0 => k_is); (case l0 => k_is); (case c0 => k_is); (case k0 => k_is); (case a1 => k_is); (case l1 => k_is); (case c1 => k_is); (case k1 => k_is); (case a2 => k_is); (case l2 => k_is); (case c2 => k_is); (case k2 => k_is); (case a3 => k_is); (case l3 => k_is); (case c3 => k_is); (case k3 => k_is); (case a4 => k_is); (case l4 => k_is); (case c4 => k_is); (case k4 => k_is); (case a5 => k_is); (case l5 => k_is); (case c5 => k_is); (case k5 => k_is); (case z0 => k_is); (case z1 => k_is); (case z2 => k_is); (case z3 => k_is); (case z4 => k_is)
