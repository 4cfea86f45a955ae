import PyProof.Rows.All
import HandS.ForMost
import PyProof.ReprRoads
import HandS.SetFor
import HandS.Strs
import HandS.TupMul
import HandS.IsInst
import HandS.Zip
import HandS.Conv
import HandS.TupAny
import HandS.Deep
import HandS.ExcOwn
import HandS.TryOnly
import HandS.WordsExc
import HandS.ExcValue
import HandS.ExcField
import HandS.ExcIs
import HandS.ExcCtx
import HandS.Lambda
import HandS.HeadHook1
import HandS.ExcInit
import KE.KSuper
import KE.KExcSuper
import HandS.HeadHook4
import HandS.HeadNt
import HandS.Style
import HandS.Wide
import HandS.SortInts
import HandS.TupSets
import HandS.HotCalls
import HandS.Flow
import KE.KExcIs
import HandS.MapObj
import KE.KDictZip
import KE.GoesMore
import PyProof.EnumMake
import PyProof.TupleOfGen
import KE.KIndexOf
import HandS.DictComp
import KE.SortKeyHeap
import HandS.SortKw
import KE.DataFind
import HandS.Dict
import HandS.Iter
import HandS.Small
import HandS.Hot
import PyProof.ExcBaseAll.ValueError
import HandS.Defaults
import HandS.Ends
import HandS.HeadEnd
import PyProof.ReprLen
import PySem.Challenge.RW_kindscarried_k51_moves_at_once
import KE.KStateDown
import HandS.Words
import HandS.Head0
import HandS.Head1
import HandS.Head2
import HandS.HeadHook2
import HandS.HeadHook3
set_option Elab.async false
set_option linter.all false
section
/-! PvA: a small language of Python's pure part (E, S), read off the text, and its evaluator over plain data D and a list of mutable objects. -/
namespace PV
open PySem L2

/-- data: none, truths, ints, texts, tuples, lists that are never changed, mutable objects by number -/
inductive D where
  | non | bl (b : Bool) | int (i : Int) | str (x : Str)
  | tup (xs : List D) | lst (xs : List D) | ref (i : Nat)
  /-- a list that is read and never written: the script -/
  | fz (xs : List D)
  /-- a written tuple whose object is known -/
  | ftup (xs : List D)
  /-- a caught exception: its class, and its one field -/
  | exc (c : Str) | exf (c f : Str) (d : D)
  deriving Inhabited
/-- what a mutable object holds -/
inductive O where
  | lst (xs : List D) | dct (kvs : List (Key × D))
  /-- a def's table of code objects of the name q, at P -/
  | tb (P : Nat) (q : Str)
  deriving Inhabited
abbrev Hh := List O
structure Xc where
  cls : Str
  fld : Option (Str × D)
/-- .. as the clause's name has it -/
def Xc.d (x : Xc) : D := match x.fld with
  | none => .exc x.cls
  | some p => .exf x.cls p.1 p.2
inductive R (α : Type) where
  | bad | ok (a : α) (h : Hh) | err (x : Xc) (h : Hh)
def R.bind {α β : Type} (r : R α) (f : α → Hh → R β) : R β := match r with
  | .bad => .bad
  | .ok a h => f a h
  | .err x h => .err x h
@[simp] theorem R.bind_ok {α β : Type} (a : α) (h : Hh) (f : α → Hh → R β) : (R.ok a h).bind f = f a h := rfl
@[simp] theorem R.bind_bad {α β : Type} (f : α → Hh → R β) : (R.bad : R α).bind f = .bad := rfl
@[simp] theorem R.bind_err {α β : Type} (x : Xc) (h : Hh) (f : α → Hh → R β) : (R.err x h : R α).bind f = .err x h := rfl
theorem R.bind_assoc {α β γ : Type} (r : R α) (f : α → Hh → R β) (g : β → Hh → R γ) : (r.bind f).bind g = r.bind fun a h => (f a h).bind g := by cases r <;> rfl
def R.opt {α : Type} (o : Option α) (h : Hh) : R α := match o with
  | some a => .ok a h
  | none => .bad
@[simp] theorem R.opt_some {α : Type} (a : α) (h : Hh) : R.opt (some a) h = .ok a h := rfl
@[simp] theorem R.opt_none {α : Type} (h : Hh) : R.opt (none : Option α) h = .bad := rfl

/-! ### data -/
mutual
def D.eqv : D → D → Bool
  | .non, .non => true
  | .bl a, .bl b => a == b
  | .bl a, .int j => (if a then 1 else 0) == j
  | .int i, .bl b => i == (if b then 1 else 0)
  | .int i, .int j => i == j
  | .str x, .str y => decide (x = y)
  | .lst xs, .lst ys => D.eqvs xs ys
  | .tup xs, .tup ys => D.eqvs xs ys
  | _, _ => false
def D.eqvs : List D → List D → Bool
  | [], [] => true
  | x :: xs, y :: ys => D.eqv x y && D.eqvs xs ys
  | _, _ => false
end
mutual
/-- data that == and in are told of: no mutable object in it, plain signs -/
def D.lay : D → Bool
  | .non => true
  | .bl _ => true
  | .int _ => true
  | .str x => PyData.strOk x
  | .tup xs => D.lays xs
  | .lst xs => D.lays xs
  | .ref _ => false
  | .fz _ => false
  | .ftup _ => false
  | .exc _ => false
  | .exf _ _ _ => false
def D.lays : List D → Bool
  | [] => true
  | x :: xs => D.lay x && D.lays xs
end
mutual
def D.dep : D → Nat
  | .tup xs => D.deps xs + 1
  | .lst xs => D.deps xs + 1
  | _ => 0
def D.deps : List D → Nat
  | [] => 0
  | x :: xs => max (D.dep x) (D.deps xs)
end
def D.shp (d : D) : Bool := d.lay && decide (d.dep ≤ 64)
mutual
/-- the very same -/
def D.same : D → D → Bool
  | .non, .non => true
  | .bl a, .bl b => a == b
  | .int i, .int j => i == j
  | .str x, .str y => decide (x = y)
  | .lst xs, .lst ys => D.sames xs ys
  | .tup xs, .tup ys => D.sames xs ys
  | .ref i, .ref j => i == j
  | .fz xs, .fz ys => D.sames xs ys
  | _, _ => false
def D.sames : List D → List D → Bool
  | [], [] => true
  | x :: xs, y :: ys => D.same x y && D.sames xs ys
  | _, _ => false
end
mutual
/-- no object from n on in it -/
def D.rlt (n : Nat) : D → Bool
  | .ref i => decide (i < n)
  | .tup xs => D.rlts n xs
  | .lst xs => D.rlts n xs
  | .fz xs => D.rlts n xs
  | .ftup xs => D.rlts n xs
  | .exf _ _ d => D.rlt n d
  | _ => true
def D.rlts (n : Nat) : List D → Bool
  | [] => true
  | x :: xs => D.rlt n x && D.rlts n xs
end
def O.rlt (n : Nat) : O → Bool
  | .lst xs => D.rlts n xs
  | .dct kvs => kvs.all fun p => p.2.rlt n
  | .tb _ _ => true
def Hh.rlt (h : Hh) (n : Nat) : Bool := h.all (O.rlt n)

mutual
/-- data as the library's data -/
def D.py : D → PyData
  | .non => .none
  | .bl b => .bool b
  | .int i => .int i
  | .str x => .str x
  | .tup xs => .tuple (D.pys xs)
  | .lst xs => .list (D.pys xs)
  | .ref _ => .none
  | .fz _ => .none
  | .ftup _ => .none
  | .exc _ => .none
  | .exf _ _ _ => .none
def D.pys : List D → List PyData
  | [] => []
  | x :: xs => D.py x :: D.pys xs
end
/-- a mutable list, seen as it stands -/
def D.res (h : Hh) : D → D
  | .ref i => match h[i]? with
    | some (.lst xs) => .lst xs
    | _ => .ref i
  | .fz xs => .lst xs
  | d => d
/-- a list that + and * take -/
def D.own (h : Hh) : D → Option (List D)
  | .lst xs => some xs
  | .ref i => match h[i]? with
    | some (.lst xs) => some xs
    | _ => none
  | _ => none
def D.seq (h : Hh) : D → Option (List D)
  | .tup xs => some xs
  | .lst xs => some xs
  | .fz xs => some xs
  | .ftup xs => some xs
  | .ref i => match h[i]? with
    | some (.lst xs) => some xs
    | _ => none
  | _ => none
def D.key : D → Option Key
  | .int i => some (.inl i)
  | .str x => some (.inr x)
  | _ => none
def D.tru (h : Hh) : D → Option Bool
  | .non => some false
  | .bl b => some b
  | .int i => some (i != 0)
  | .str x => if x.length ≤ sizeLine then some ((x.length : Int) != 0) else none
  | .tup xs => some (!xs.isEmpty)
  | .lst xs => some (!xs.isEmpty)
  | .fz xs => some (!xs.isEmpty)
  | .ftup _ => none
  | .exc _ => none
  | .exf _ _ _ => none
  | .ref i => match h[i]? with
    | some (.lst xs) => some (!xs.isEmpty)
    | some (.dct kvs) => some (!kvs.isEmpty)
    | _ => none
def D.isNon : D → Bool
  | .non => true
  | _ => false
def D.eqBl (b : Bool) : D → Bool
  | .bl a => a == b
  | _ => false
def D.isInt : D → Option Int
  | .int i => some i
  | _ => none
def D.isBl : D → Option Bool
  | .bl b => some b
  | _ => none

/-! sorted -/
def insI (x : Int) : (List Int) → (List Int)
  | [] => [x]
  | y :: r => if x ≤ y then x :: y :: r else y :: insI x r
def srtI (l : List Int) : List Int := l.foldr insI []
def insS (x : Str) : List Str → List Str
  | [] => [x]
  | y :: r => if PySem.Spec.ltCps y.cps.toList x.cps.toList then y :: insS x r else x :: y :: r
def srtS (l : List Str) : List Str := l.foldr insS []
/-- .. of a set -/
def insD (x : Int) : List Int → List Int
  | [] => [x]
  | y :: r => if x < y then x :: y :: r else if x = y then y :: r else y :: insD x r
def srtD (l : List Int) : List Int := l.foldr insD []

inductive BOp where | add | sub | mul | fdiv | mod | pow
inductive COp where | eq | ne | lt | le | gt | ge | inn | nin | is | isn | deq
inductive Ty where | int | str | tup | lst | bl | dct | non
inductive Bf where | len | int | abs | tuple | list | max2 | min2 | sum | all | any | sorted | repr | minD
inductive Mt where | append | pop | popAt | index | count

def mulOk (i j : Int) : Bool := decide (i.natAbs.log2 + j.natAbs.log2 < 1000000) || decide (-(2 ^ 64) < i ∧ i < 2 ^ 64) || decide (-(2 ^ 64) < j ∧ j < 2 ^ 64)
def powOk (i j : Int) : Bool := decide (0 ≤ j) && decide (j ≤ 1000000) && decide (i.natAbs < 2 ^ 64)
def sizeOk (n : Nat) : Bool := decide (n ≤ 16777216)
def cutD (xs : List D) (lo hi : Option Int) : List D := (xs.drop (HT.sIx xs.length 0 lo)).take (HT.sIx xs.length xs.length hi - HT.sIx xs.length 0 lo)

def opBin (o : BOp) (h : Hh) (x y : D) : Option D := match o with
  | .add => match x, y with
    | .int i, .int j => some (.int (i + j))
    | .str a, .str b => if sizeOk (a.length + b.length) then some (.str (a ++ b)) else none
    | .tup xs, .tup ys => if sizeOk (xs.length + ys.length) then some (.tup (xs ++ ys)) else none
    | x, y => match x.own h, y.own h with
      | some xs, some ys => if sizeOk (xs.length + ys.length) then some (.lst (xs ++ ys)) else none
      | _, _ => none
  | .sub => match x, y with
    | .int i, .int j => some (.int (i - j))
    | _, _ => none
  | .mul => match x, y with
    | .int i, .int j => if mulOk i j then some (.int (i * j)) else none
    | .tup xs, .int j => if xs ≠ [] ∧ 2 ≤ j ∧ j ≤ 1000000 ∧ j.toNat * xs.length ≤ 1000000 then some (.tup (List.replicate j.toNat xs).flatten) else none
    | x, .int j => match x.own h with
      | some xs => if 0 ≤ j ∧ j ≤ 16777216 ∧ sizeOk (xs.length * j.toNat) then some (.lst (List.replicate j.toNat xs).flatten) else none
      | _ => none
    | _, _ => none
  | .fdiv => match x, y with
    | .int i, .int j => if 0 < j ∧ j.natAbs.log2 < 9000 then some (.int (i / j)) else none
    | _, _ => none
  | .mod => match x, y with
    | .int i, .int j => if 0 < j then some (.int (i % j)) else none
    | _, _ => none
  | .pow => match x, y with
    | .int i, .int j => if powOk i j then some (.int (i ^ j.toNat)) else none
    | _, _ => none
/-- x op= y of ints and texts -/
def augOp (o : BOp) (x y : D) : Option D := match o with
  | .add => match x, y with
    | .int i, .int j => some (.int (i + j))
    | .str a, .str b => if sizeOk (a.length + b.length) then some (.str (a ++ b)) else none
    | _, _ => none
  | .sub => match x, y with
    | .int i, .int j => some (.int (i - j))
    | _, _ => none
  | .mul => none
  | .fdiv => match x, y with
    | .int i, .int j => if 0 < j ∧ j < 1073741824 then some (.int (i / j)) else none
    | _, _ => none
  | .mod => match x, y with
    | .int i, .int j => if 0 < j then some (.int (i % j)) else none
    | _, _ => none
  | .pow => none
/-- what == reads: plain data, one of both not deep -/
def D.cok (a b : D) : Bool := (a.shp && b.shp) || (a.lay && (b.lay && decide (min a.dep b.dep ≤ 64)))
def opEq (h : Hh) (x y : D) : Option Bool := match x, y with
  | .str a, .str b => some (decide (a = b))
  | x, y => if D.cok (x.res h) (y.res h) then some ((x.res h).eqv (y.res h)) else none
/-- mutable lists, seen as they stand, in depth -/
def D.all (h : Hh) : Nat → D → D
  | 0, d => d
  | k + 1, d => match d with
    | .ref i => match h[i]? with
      | some (.lst xs) => .lst (xs.map (D.all h k))
      | _ => .ref i
    | .tup xs => .tup (xs.map (D.all h k))
    | .lst xs => .lst (xs.map (D.all h k))
    | d => d
def opDeq (h : Hh) (x y : D) : Option Bool := if D.cok (x.all h 3) (y.all h 3) then some ((x.all h 3).eqv (y.all h 3)) else none
def valD (kvs : List (Key × D)) (k : Key) : Option D := (kvs.find? fun kv => decide (kv.1 = k)).map (·.2)
def putD (kvs : List (Key × D)) (k : Key) (v : D) : List (Key × D) :=
  if (kvs.any fun kv => decide (kv.1 = k)) = true
  then kvs.map (fun kv => if kv.1 = k then (kv.1, v) else kv) else kvs ++ [(k, v)]
def dropD (kvs : List (Key × D)) (k : Key) : List (Key × D) := kvs.filter fun kv => decide (kv.1 ≠ k)
def hasKey (k : Key) (kvs : List (Key × D)) : Bool := (valD kvs k).isSome
def opIn (h : Hh) (x y : D) : Option Bool := match y with
  | .ref i => match h[i]? with
    | some (.lst ys) => if x.shp && (D.lst ys).shp then some (ys.any fun y => y.eqv x) else none
    | some (.dct kvs) => match x.key with
      | some k => some (hasKey k kvs)
      | none => none
    | _ => none
  | .lst ys => if x.shp && (D.lst ys).shp then some (ys.any fun y => y.eqv x) else none
  | .tup ys => if x.shp && (D.tup ys).shp then some (ys.any fun y => y.eqv x) else none
  | .ftup ys => if x.shp && (D.tup ys).shp then some (ys.any fun y => y.eqv x) else none
  | _ => none
def opCmp (o : COp) (h : Hh) (x y : D) : Option Bool := match o with
  | .eq => opEq h x y
  | .ne => (opEq h x y).map (!·)
  | .lt => match x, y with
    | .int i, .int j => some (decide (i < j))
    | _, _ => none
  | .le => match x, y with
    | .int i, .int j => some (decide (i ≤ j))
    | _, _ => none
  | .gt => match x, y with
    | .int i, .int j => some (decide (j < i))
    | _, _ => none
  | .ge => match x, y with
    | .int i, .int j => some (decide (j ≤ i))
    | _, _ => none
  | .inn => opIn h x y
  | .nin => (opIn h x y).map (!·)
  | .is => match y with
    | .non => some x.isNon
    | .bl b => some (x.eqBl b)
    | _ => none
  | .isn => match y with
    | .non => some (!x.isNon)
    | .bl b => some (!x.eqBl b)
    | _ => none
  | .deq => opDeq h x y
def opIdx (h : Hh) (x y : D) : Option D := match x, y with
  | .tup xs, .int i => atI xs i
  | .lst xs, .int i => atI xs i
  | .fz xs, .int i => atI xs i
  | .ref r, y => match h[r]?, y with
    | some (.lst xs), .int i => atI xs i
    | some (.dct kvs), y => match y.key with
      | some k => valD kvs k
      | none => none
    | _, _ => none
  | _, _ => none
def opSlc (h : Hh) (x : D) (l u : Option Int) : Option D := match x with
  | .tup xs => some (.tup (cutD xs l u))
  | x => match x.res h with
    | .lst xs => some (.lst (cutD xs l u))
    | _ => none
def opIsi (t : Ty) (h : Hh) (x : D) : Bool := match t, x with
  | .int, .int _ => true
  | .int, .bl _ => true
  | .bl, .bl _ => true
  | .non, .non => true
  | .str, .str _ => true
  | .tup, .tup _ => true
  | .lst, .lst _ => true
  | .lst, .fz _ => true
  | .lst, .ref i => match h[i]? with | some (.lst _) => true | _ => false
  | .dct, .ref i => match h[i]? with | some (.dct _) => true | _ => false
  | _, _ => false
def D.ints : List D → Option (List Int)
  | [] => some []
  | .int i :: r => (D.ints r).map (i :: ·)
  | _ => none
def D.bls : List D → Option (List Bool)
  | [] => some []
  | .bl b :: r => (D.bls r).map (b :: ·)
  | _ => none
def D.strs : List D → Option (List Str)
  | [] => some []
  | .str i :: r => (D.strs r).map (i :: ·)
  | _ => none
def D.lstOf : D → Option (List D)
  | .lst xs => some xs
  | _ => none
def bfLen (h : Hh) : List D → Option D
  | [.tup ys] => some (.int ys.length)
  | [.lst ys] => some (.int ys.length)
  | [.fz ys] => some (.int ys.length)
  | [.ftup ys] => some (.int ys.length)
  | [.str x] => if x.length ≤ sizeLine then some (.int x.length) else none
  | [.ref i] => match h[i]? with
    | some (.lst ys) => some (.int ys.length)
    | some (.dct kvs) => some (.int kvs.length)
    | _ => none
  | _ => none
def bfInt : List D → Option D
  | [.int i] => some (.int i)
  | [.bl b] => some (.int (if b then 1 else 0))
  | _ => none
def bfAbs : List D → Option D
  | [.int i] => some (.int (if i < 0 then -i else i))
  | _ => none
def bfTuple (h : Hh) : List D → Option D
  | [.ftup _] => none
  | [x] => (x.seq h).map D.tup
  | _ => none
def bfList (h : Hh) : List D → Option D
  | [x] => (x.seq h).map D.lst
  | _ => none
def bfMax : List D → Option D
  | [.int i, .int j] => some (.int (if j > i then j else i))
  | _ => none
def bfMin : List D → Option D
  | [.int i, .int j] => some (.int (if j < i then j else i))
  | _ => none
def bfSum (h : Hh) : List D → Option D
  | [x] => ((x.res h).lstOf.bind D.ints).map fun ns => .int ns.sum
  | _ => none
def bfAll (h : Hh) : List D → Option D
  | [x] => ((x.res h).lstOf.bind D.bls).map fun bs => .bl (bs.all id)
  | _ => none
def bfAny (h : Hh) : List D → Option D
  | [x] => ((x.res h).lstOf.bind D.bls).map fun bs => .bl (bs.any id)
  | _ => none
def srtItems (any : Bool) (ds : List D) : Option D := match D.ints ds with
  | some ns => if any || decide (ns.length < 64) then some (.lst ((srtI ns).map .int)) else none
  | none => match D.strs ds with
    | some ss => if ss.length < 64 then some (.lst ((srtS ss).map .str)) else none
    | none => none
def keyInts : List (Key × D) → Option (List Int)
  | [] => some []
  | (.inl i, _) :: r => (keyInts r).map (i :: ·)
  | _ => none
def bfSorted (h : Hh) : List D → Option D
  | [.ftup _] => none
  | [.tup ys] => srtItems false ys
  | [.lst ys] => srtItems true ys
  | [.fz ys] => srtItems true ys
  | [.ref i] => match h[i]? with
    | some (.lst ys) => srtItems true ys
    | some (.dct kvs) => (keyInts kvs).bind fun ns => if ns.length < 64 then some (.lst ((srtI ns).map .int)) else none
    | _ => none
  | _ => none
/-- sorted(set(x)) -/
def ssetOp (h : Hh) (x : D) : Option D := ((x.res h).lstOf.bind D.ints).bind fun ns => if ns.length < 64 then some (.lst ((srtD ns).map .int)) else none
/-- sorted(x, key=lambda p: p[0]) of tuples that begin with an int -/
def keyD : D → Option Int
  | .tup (.int i :: _) => some i
  | _ => none
def D.keyL (d : D) : Int := (keyD d).getD 0
def srtKOp (h : Hh) (x : D) : Option D := match x.res h with
  | .lst ds => if ds.all (fun d => (keyD d).isSome) && sizeOk ds.length then some (.lst (ds.mergeSort fun a b => decide (a.keyL ≤ b.keyL))) else none
  | _ => none
def tbAt (G : List D) (h : Hh) (q : Str) : Bool := match (G.getLast? : Option D), (h[0]? : Option O) with
  | some (.int P), some (.tb P' q') => decide (P = (P' : Int)) && decide (q = q')
  | _, _ => false
def reprD (d : D) : Option D := if d.shp && d.py.showable && decide (d.py.shown.length ≤ 16777216) then some (.str d.py.shown) else none
def bfRepr (h : Hh) : List D → Option D
  | [x] => reprD (x.res h)
  | _ => none
/-- min of a dict with ints for keys -/
def bfMinD (h : Hh) : List D → Option D
  | [.ref i] => match h[i]? with
    | some (.dct kvs) => (keyInts kvs).bind fun ns => (srtI ns).head?.map .int
    | _ => none
  | _ => none
def opBf (f : Bf) (h : Hh) (xs : List D) : Option D := match f with
  | .len => bfLen h xs
  | .int => bfInt xs
  | .abs => bfAbs xs
  | .tuple => bfTuple h xs
  | .list => bfList h xs
  | .max2 => bfMax xs
  | .min2 => bfMin xs
  | .sum => bfSum h xs
  | .all => bfAll h xs
  | .any => bfAny h xs
  | .sorted => bfSorted h xs
  | .repr => bfRepr h xs
  | .minD => bfMinD h xs

/-! ### the syntax -/
mutual
inductive E where
  | var (i : Nat) | con (d : D) | glo (i : Nat) | miss
  | tup (es : Es) | ftup (es : Es) | lst (es : Es) | new (e : E) | dic0
  | bin (o : BOp) (a b : E) | neg (a : E)
  | cmp (o : COp) (a b : E) | chain (o p : COp) (a b c : E)
  | and (a : E) (r : Es) | or (a : E) (r : Es) | not (a : E) | ite (c a b : E)
  | idx (a i : E) | slc (a lo hi : E)
  | call (f : Nat) (es : Es) | callK (f : Nat) (es kes : Es) (ks : List Nat)
  | bf (f : Bf) (es : Es) | isi (a : E) (t : Ty)
  | mth (m : Mt) (o : E) (es : Es)
  | lc (t : Tg) (it : I) (c e : E)
  | tenum (a : E)
  | sset (a : E)
  | dcl (t : Tg) (it : I) (c k v : E)
  | trng (a : E)
  | isi2 (a : E)
  | isx (a : E) (c : Str) (yes no : List Str)
  | fld (a : E) (f : Str) (ks : List Str)
  /-- C(e).f, C keeps e as f (by position, by name) -/
  | mkf (c f : Str) (k : Bool) (e : E)
  /-- isinstance(e, ValueError) of a caught exception -/
  | isv (a : E) (yes : List Str)
  /-- sorted(a, key=lambda p: p[0]), its lambda of the name q -/
  | srtK (a : E) (q : Str)
  /-- [e for v in d.values()]: the names v and d; the items hold no objects, e tells an int or None -/
  | lcv (j i : Nat) (e : E)
  /-- d.pop(k), k in d -/
  | dpop (o k : E)
  /-- list(range(n)), within new -/
  | lrg (n : E)
  /-- never reached -/
  | bad
inductive Es where
  | nil | cons (e : E) (es : Es)
inductive I where
  | ev (e : E) | rng (n : E) | rng2 (a b : E) | zip (a b : E) | enum (a : E)
inductive Tg where
  | v (i : Nat) | tu (is : List Nat)
end
def E.isMiss : E → Bool
  | .miss => true
  | _ => false
mutual
inductive S where
  | asg (i : Nat) (e : E) | asgLc (i : Nat) (e : E) | par (i j : Nat) (a b : E) | unp (is : List Nat) (e : E)
  | sto (o i e : E) | aug (i : Nat) (o : BOp) (e : E) | augL (i : Nat) (e : E)
  | exp (e : E) | ret (e : E) | retN
  | ite (c : E) (a b : Ss) | whl (c : E) (b : Ss) | for_ (t : Tg) (it : I) (b : Ss)
  | pass | brk | cnt | gc (ks : List Nat) (b : S)
  | asgC (i f : Nat) (es : Es) | expC (f : Nat) (es : Es) | retC (f : Nat) (es : Es)
  | raise_ (c : Str) | try_ (b : Ss) (c : Str) (yes no : List Str) (s : Ss)
  | tryAs (b : Ss) (c : Str) (yes no : List Str) (i : Nat) (s : Ss)
  /-- .. whose suite begins with a, b = x, y -/
  | tryAP (b : Ss) (c : Str) (yes no : List Str) (i i1 j1 : Nat) (a1 b1 : E) (s : Ss)
  /-- raise C(e), C without an own __init__; raise C(e), C keeps e as f; never reached -/
  | raiseE (c : Str) (e : E) | raiseF (c f : Str) (e : E) | bad
inductive Ss where
  | nil | cons (s : S) (ss : Ss)
end
abbrev Env := List (Option D)
abbrev Fns := Nat → List D → Hh → R D

/-! ### the evaluator -/
/-- the items, and the object that they are read off -/
structure Src where
  items : List D
  off : Option Nat
def Src.good (s : Src) (h : Hh) : Bool := match s.off with
  | none => true
  | some i => match h[i]? with
    | some (.lst xs) => D.sames xs s.items
    | _ => false
def D.src (h : Hh) : D → Option Src
  | .tup xs => some ⟨xs, none⟩
  | .lst xs => some ⟨xs, none⟩
  | .fz xs => some ⟨xs, none⟩
  | .ftup xs => some ⟨xs, none⟩
  | .ref i => match h[i]? with
    | some (.lst xs) => some ⟨xs, some i⟩
    | _ => none
  | _ => none
def rngOk (a b : Int) : Bool := decide (-(2 ^ 62) ≤ a) && decide (a < 2 ^ 62) && decide (-(2 ^ 62) ≤ b) && decide (b < 2 ^ 62)
def rngD (a b : Int) : List D := (List.range (b - a).toNat).map fun k => .int (a + (k : Nat))
def zipD (xs ys : List D) : List D := List.zipWith (fun x y => .tup [x, y]) xs ys
def enumD (n : Nat) : List D → List D
  | [] => []
  | x :: xs => .tup [.int n, x] :: enumD (n + 1) xs
def tenumOp : D → Option D
  | .tup xs => if sizeOk xs.length then some (.tup (enumD 0 xs)) else none
  | _ => none
def zipSrc : D → D → Option Src
  | .tup xs, .tup ys => some ⟨zipD xs ys, none⟩
  | .lst xs, .lst ys => some ⟨zipD xs ys, none⟩
  | _, _ => none
def enumSrc : D → Option Src
  | .lst xs => some ⟨enumD 0 xs, none⟩
  | .fz xs => some ⟨enumD 0 xs, none⟩
  | .tup xs => some ⟨enumD 0 xs, none⟩
  | _ => none
def trngOp : D → Option D
  | .int n => if 0 ≤ n ∧ n ≤ 16777216 then some (.tup (rngD 0 n)) else none
  | _ => none
def setAll : List Nat → List D → Env → Option Env
  | [], [], ρ => some ρ
  | i :: is, x :: xs, ρ => setAll is xs (ρ.set i (some x))
  | _, _, _ => none
def Tg.put (t : Tg) (x : D) (ρ : Env) : Option Env := match t with
  | .v i => some (ρ.set i (some x))
  | .tu is => match x with
    | .tup xs => setAll is xs ρ
    | .lst xs => setAll is xs ρ
    | _ => none
def Tg.slots : Tg → List Nat
  | .v i => [i]
  | .tu is => is
/-- the loop of a comprehension -/
def lcLoop (good : Hh → Bool) (turn : D → Hh → R (Option D)) : List D → List D → Hh → R D
  | [], acc, h => if good h then .ok (.lst acc) h else .bad
  | x :: xs, acc, h => if good h then (match turn x h with
    | .ok (some y) h' => lcLoop good turn xs (acc ++ [y]) h'
    | .ok none h' => lcLoop good turn xs acc h'
    | _ => .bad) else .bad
/-- .. of a dict comprehension -/
def dcLoop (good : Hh → Bool) (turn : D → Hh → R (Option (Key × D))) : List D → List (Key × D) → Hh → R (List (Key × D))
  | [], acc, h => if good h then .ok acc h else .bad
  | x :: xs, acc, h => if good h then (match turn x h with
    | .ok (some p) h' => dcLoop good turn xs (putD acc p.1 p.2) h'
    | .ok none h' => dcLoop good turn xs acc h'
    | _ => .bad) else .bad
def newDct (kvs : List (Key × D)) (h : Hh) : R D := .ok (.ref h.length) (h ++ [.dct kvs])
def newObj (d : D) (h : Hh) : R D := match d with
  | .lst xs => .ok (.ref h.length) (h ++ [.lst xs])
  | _ => .bad
def mtAppend (ys : List D) : List D → Option (D × List D)
  | [x] => if sizeOk (ys.length + 1) then some (.non, ys ++ [x]) else none
  | _ => none
def mtPop (ys : List D) : List D → Option (D × List D)
  | [] => (ys[ys.length - 1]?).map fun y => (y, ys.dropLast)
  | _ => none
def mtPopAt (ys : List D) : List D → Option (D × List D)
  | [.int k] => (ixN ys.length k).bind fun j => (ys[j]?).map fun y => (y, ys.eraseIdx j)
  | _ => none
def mtL (m : Mt) (ys xs : List D) : Option (D × List D) := match m with
  | .append => mtAppend ys xs
  | .pop => mtPop ys xs
  | .popAt => mtPopAt ys xs
  | .index => none
  | .count => none
def mthRef (m : Mt) (i : Nat) (xs : List D) (h : Hh) : R D := match h[i]? with
  | some (.lst ys) => match mtL m ys xs with
    | some p => .ok p.1 (h.set i (.lst p.2))
    | none => .bad
  | _ => .bad
def mthOp (m : Mt) (o : D) (xs : List D) (h : Hh) : R D := match o with
  | .ref i => mthRef m i xs h
  | _ => .bad
/-- positional and keyword arguments in the parameters' order -/
def pmD {α : Type} (d : α) (ks : List Nat) (xs ys : List α) : List α := ks.map fun k => (xs ++ ys).getD k d
def D.isL (h : Hh) : D → Bool
  | .ref i => match h[i]? with
    | some (.lst _) => true
    | _ => false
  | .lst _ => true
  | .fz _ => true
  | _ => false
/-- what an expression does: as a value, as a test -/
structure P where
  v : Env → Hh → R D
  t : Env → Hh → R Bool
def P.plain (v : Env → Hh → R D) : P := ⟨v, fun ρ h => (v ρ h).bind fun x h1 => R.opt (x.tru h1) h1⟩
/-- .. a row of expressions: their values, and, or of them as a value, as a test -/
structure PL where
  nil : Bool
  l : Env → Hh → R (List D)
  an : Env → Hh → R D
  on : Env → Hh → R D
  at_ : Env → Hh → R Bool
  ot : Env → Hh → R Bool
/-- a slice's part -/
def vPart (m : Bool) (p : P) (ρ : Env) (h : Hh) : R (Option Int) := if m then .ok none h else (p.v ρ h).bind fun d h1 => R.opt (d.isInt.map some) h1
/-- one turn of a comprehension -/
def lcTurn (t : Tg) (c e : P) (ρ : Env) (x : D) (h : Hh) : R (Option D) := match t.put x ρ with
  | none => .bad
  | some ρ' => (c.t ρ' h).bind fun ok h3 => if ok then (e.v ρ' h3).bind fun y h4 => .ok (some y) h4 else .ok none h3
def dcEnd (y z : D) (h : Hh) : R (Option (Key × D)) := match y.key with
  | some q => .ok (some (q, z)) h
  | none => .bad
def dcTurn (t : Tg) (c k v : P) (ρ : Env) (x : D) (h : Hh) : R (Option (Key × D)) := match t.put x ρ with
  | none => .bad
  | some ρ' => (c.t ρ' h).bind fun ok h3 => if ok then (k.v ρ' h3).bind fun y h4 => (v.v ρ' h4).bind fun z h5 => dcEnd y z h5 else .ok none h3
def vBl (x : D) (h : Hh) : R Bool := R.opt x.isBl h
/-- a written tuple -/
def D.isF : D → Bool
  | .ftup _ => true
  | .exc _ => true
  | .exf _ _ _ => true
  | _ => false
/-- .. or a table -/
def D.isTb (h : Hh) : D → Bool
  | .ref i => match h[i]? with
    | some (.tb _ _) => true
    | _ => false
  | _ => false
def D.isO (h : Hh) (d : D) : Bool := d.isF || d.isTb h
/-- isinstance of a caught exception -/
def isxOp (yes no : List Str) : D → Option D
  | .exc k => if k ∈ yes then some (.bl true) else if k ∈ no then some (.bl false) else none
  | .exf k _ _ => if k ∈ yes then some (.bl true) else if k ∈ no then some (.bl false) else none
  | _ => none
def fldOp (f : Str) (ks : List Str) : D → Option D
  | .exf k g d => if g = f ∧ k ∈ ks then some d else none
  | _ => none
def isi2Op (h : Hh) (x : D) : Bool := opIsi .tup h x || opIsi .lst h x
def D.atm : D → Bool
  | .non => true
  | .int _ => true
  | _ => false
def D.isI (z : Int) : D → Bool
  | .int i => decide (i = z)
  | _ => false
def lcvLoop (f : Env → Hh → R D) (n j : Nat) : List D → Option (List D)
  | [] => some []
  | v :: vs => match f ((List.replicate n none).set j (some v)) [] with
    | .ok x _ => if x.atm then (lcvLoop f n j vs).map (x :: ·) else none
    | _ => none
def lcvOp (f : Env → Hh → R D) (n j : Nat) (o : Option (Option D)) (h : Hh) : R D := match o with
  | some (some (.ref r)) => match h[r]? with
    | some (.dct kvs) => if sizeOk kvs.length && kvs.all (fun p => p.2.rlt 0) then R.opt ((lcvLoop f n j (kvs.map (·.2))).map .lst) h else .bad
    | _ => .bad
  | _ => .bad
def D.isDc (h : Hh) : D → Bool
  | .ref r => match h[r]? with
    | some (.dct _) => true
    | _ => false
  | _ => false
def dpopOp (x y : D) (h : Hh) : R D := match x with
  | .ref r => match h[r]?, y.key with
    | some (.dct kvs), some k => match valD kvs k with
      | some v => .ok v (h.set r (.dct (dropD kvs k)))
      | none => .bad
    | _, _ => .bad
  | _ => .bad
def lrgOp : D → Option D
  | .int n => if 0 ≤ n ∧ n ≤ 16777216 then some (.lst (rngD 0 n)) else none
  | _ => none
/-- what t.index goes through -/
def D.ixs (h : Hh) : D → Option (List D)
  | .ftup xs => some xs
  | .lst xs => some xs
  | .fz xs => some xs
  | .ref i => match h[i]? with
    | some (.lst xs) => some xs
    | _ => none
  | _ => none
def idxD (ds : List D) : List D → Option D
  | [.int z] => (D.ints ds).bind fun ns => if z ∈ ns then some (.int (ns.idxOf z : Nat)) else none
  | _ => none
def ixD (x : D) (h : Hh) (xs : List D) : Option D := (x.ixs h).bind fun ds => idxD ds xs
def mthI (po : P) (pl : PL) : P := .plain fun ρ h => (po.v ρ h).bind fun x h1 => if (x.ixs h1).isSome then (pl.l ρ h1).bind fun xs h2 => R.opt (ixD x h2 xs) h2 else .bad
/-- list.count of an int, among ints and None -/
def cntD (ds : List D) : List D → Option D
  | [.int z] => if ds.all D.atm then some (.int (ds.countP (D.isI z) : Nat)) else none
  | _ => none
def D.cts (h : Hh) : D → Option (List D)
  | .ftup _ => none
  | x => x.ixs h
def mthC (po : P) (pl : PL) : P := .plain fun ρ h => (po.v ρ h).bind fun x h1 => if (x.cts h1).isSome then (pl.l ρ h1).bind fun xs h2 => R.opt ((x.cts h2).bind fun ds => cntD ds xs) h2 else .bad
def mthP (m : Mt) (po : P) (pl : PL) : P := match m with
  | .index => mthI po pl
  | .count => mthC po pl
  | m => .plain fun ρ h => (po.v ρ h).bind fun x h1 => if x.isL h1 then (pl.l ρ h1).bind fun xs h2 => mthOp m x xs h2 else .bad
section
variable (F : Fns) (G : List D)
mutual
def evE : E → P
  | .var i => .plain fun ρ h => match ρ[i]? with
    | some (some d) => .ok d h
    | _ => .bad
  | .con d => .plain fun _ h => .ok d h
  | .glo i => .plain fun _ h => R.opt G[i]? h
  | .miss => ⟨fun _ h => .ok .non h, fun _ h => .ok true h⟩
  | .tup es => .plain fun ρ h => ((evEs es).l ρ h).bind fun xs h1 => if sizeOk xs.length then .ok (.tup xs) h1 else .bad
  | .ftup es => .plain fun ρ h => ((evEs es).l ρ h).bind fun xs h1 => if sizeOk xs.length then .ok (.ftup xs) h1 else .bad
  | .lst es => .plain fun ρ h => ((evEs es).l ρ h).bind fun xs h1 => if sizeOk xs.length then .ok (.lst xs) h1 else .bad
  | .new e => .plain fun ρ h => ((evE e).v ρ h).bind newObj
  | .dic0 => .plain fun _ h => .ok (.ref h.length) (h ++ [.dct []])
  | .bin o a b => .plain fun ρ h => ((evE a).v ρ h).bind fun x h1 => ((evE b).v ρ h1).bind fun y h2 => R.opt (opBin o h2 x y) h2
  | .neg a => .plain fun ρ h => ((evE a).v ρ h).bind fun x h1 => R.opt (x.isInt.map fun i => .int (-i)) h1
  | .cmp o a b => .plain fun ρ h => ((evE a).v ρ h).bind fun x h1 => ((evE b).v ρ h1).bind fun y h2 => R.opt ((opCmp o h2 x y).map D.bl) h2
  | .chain o p a b c => .plain fun ρ h => ((evE a).v ρ h).bind fun x h1 => ((evE b).v ρ h1).bind fun y h2 => (R.opt (opCmp o h2 x y) h2).bind fun t h3 =>
      if t then ((evE c).v ρ h3).bind fun z h4 => R.opt ((opCmp p h4 y z).map D.bl) h4 else .ok (.bl false) h3
  | .and a r => ⟨fun ρ h => ((evE a).v ρ h).bind fun x h1 => (vBl x h1).bind fun t h2 => if t then (evEs r).an ρ h2 else .ok (.bl false) h2,
      fun ρ h => ((evE a).t ρ h).bind fun t h1 => if t then (evEs r).at_ ρ h1 else .ok false h1⟩
  | .or a r => ⟨fun ρ h => ((evE a).v ρ h).bind fun x h1 => (vBl x h1).bind fun t h2 => if t then .ok (.bl true) h2 else (evEs r).on ρ h2,
      fun ρ h => ((evE a).t ρ h).bind fun t h1 => if t then .ok true h1 else (evEs r).ot ρ h1⟩
  | .not a => ⟨fun ρ h => ((evE a).v ρ h).bind fun x h1 => (vBl x h1).bind fun t h2 => .ok (.bl (!t)) h2,
      fun ρ h => ((evE a).t ρ h).bind fun t h1 => .ok (!t) h1⟩
  | .ite c a b => ⟨fun ρ h => ((evE c).t ρ h).bind fun t h1 => if t then (evE a).v ρ h1 else (evE b).v ρ h1,
      fun ρ h => ((evE c).t ρ h).bind fun t h1 => if t then (evE a).t ρ h1 else (evE b).t ρ h1⟩
  | .idx a i => .plain fun ρ h => ((evE a).v ρ h).bind fun x h1 => ((evE i).v ρ h1).bind fun y h2 => R.opt (opIdx h2 x y) h2
  | .slc a lo hi => .plain fun ρ h => ((evE a).v ρ h).bind fun x h1 => (vPart lo.isMiss (evE lo) ρ h1).bind fun l h2 => (vPart hi.isMiss (evE hi) ρ h2).bind fun u h3 => R.opt (opSlc h3 x l u) h3
  | .call f es => .plain fun ρ h => ((evEs es).l ρ h).bind fun xs h1 => F f xs h1
  | .callK f es kes ks => .plain fun ρ h => ((evEs es).l ρ h).bind fun xs h1 => ((evEs kes).l ρ h1).bind fun ys h2 => F f (pmD .non ks xs ys) h2
  | .bf f es => .plain fun ρ h => ((evEs es).l ρ h).bind fun xs h1 => R.opt (opBf f h1 xs) h1
  | .isi a t => .plain fun ρ h => ((evE a).v ρ h).bind fun x h1 => if x.isO h1 then .bad else .ok (.bl (opIsi t h1 x)) h1
  | .mth m o es => mthP m (evE o) (evEs es)
  | .lc t it c e => .plain fun ρ h => (evI it ρ h).bind fun s h1 => if sizeOk s.items.length then lcLoop s.good (lcTurn t (evE c) (evE e) ρ) s.items [] h1 else .bad
  | .tenum a => .plain fun ρ h => ((evE a).v ρ h).bind fun x h1 => R.opt (tenumOp x) h1
  | .sset a => .plain fun ρ h => ((evE a).v ρ h).bind fun x h1 => R.opt (ssetOp h1 x) h1
  | .dcl t it c k v => .plain fun ρ h => (evI it ρ h).bind fun s h1 => if sizeOk s.items.length then (dcLoop s.good (dcTurn t (evE c) (evE k) (evE v) ρ) s.items [] h1).bind newDct else .bad
  | .trng a => .plain fun ρ h => ((evE a).v ρ h).bind fun x h1 => R.opt (trngOp x) h1
  | .isi2 a => .plain fun ρ h => ((evE a).v ρ h).bind fun x h1 => if x.isO h1 then .bad else .ok (.bl (isi2Op h1 x)) h1
  | .isx a _ yes no => .plain fun ρ h => ((evE a).v ρ h).bind fun x h1 => R.opt (isxOp yes no x) h1
  | .fld a f ks => .plain fun ρ h => ((evE a).v ρ h).bind fun x h1 => R.opt (fldOp f ks x) h1
  | .mkf _ _ _ e => .plain (evE e).v
  | .srtK a q => .plain fun ρ h => ((evE a).v ρ h).bind fun x h1 => if tbAt G h1 q then R.opt (srtKOp h1 x) h1 else .bad
  | .lcv j i e => .plain fun ρ h => lcvOp (evE e).v ρ.length j ρ[i]? h
  | .dpop o k => .plain fun ρ h => ((evE o).v ρ h).bind fun x h1 => if x.isDc h1 then ((evE k).v ρ h1).bind fun y h2 => dpopOp x y h2 else .bad
  | .lrg n => .plain fun ρ h => ((evE n).v ρ h).bind fun x h1 => R.opt (lrgOp x) h1
  | .isv a yes => .plain fun ρ h => ((evE a).v ρ h).bind fun x h1 => R.opt (isxOp yes [] x) h1
  | .bad => .plain fun _ _ => .bad
def evEs : Es → PL
  | .nil => ⟨true, fun _ h => .ok [] h, fun _ _ => .bad, fun _ _ => .bad, fun _ _ => .bad, fun _ _ => .bad⟩
  | .cons e es => ⟨false,
      fun ρ h => ((evE e).v ρ h).bind fun x h1 => ((evEs es).l ρ h1).bind fun xs h2 => .ok (x :: xs) h2,
      fun ρ h => if (evEs es).nil then (evE e).v ρ h else ((evE e).v ρ h).bind fun x h1 => (vBl x h1).bind fun t h2 => if t then (evEs es).an ρ h2 else .ok (.bl false) h2,
      fun ρ h => if (evEs es).nil then (evE e).v ρ h else ((evE e).v ρ h).bind fun x h1 => (vBl x h1).bind fun t h2 => if t then .ok (.bl true) h2 else (evEs es).on ρ h2,
      fun ρ h => if (evEs es).nil then (evE e).t ρ h else ((evE e).t ρ h).bind fun t h1 => if t then (evEs es).at_ ρ h1 else .ok false h1,
      fun ρ h => if (evEs es).nil then (evE e).t ρ h else ((evE e).t ρ h).bind fun t h1 => if t then .ok true h1 else (evEs es).ot ρ h1⟩
def evI : I → Env → Hh → R Src
  | .ev e, ρ, h => ((evE e).v ρ h).bind fun x h1 => R.opt (x.src h1) h1
  | .rng n, ρ, h => ((evE n).v ρ h).bind fun x h1 => R.opt (x.isInt.bind fun n => if rngOk 0 n then some ⟨rngD 0 n, none⟩ else none) h1
  | .rng2 a b, ρ, h => ((evE a).v ρ h).bind fun x h1 => ((evE b).v ρ h1).bind fun y h2 => R.opt (x.isInt.bind fun i => y.isInt.bind fun j => if rngOk i j then some ⟨rngD i j, none⟩ else none) h2
  | .zip a b, ρ, h => ((evE a).v ρ h).bind fun x h1 => ((evE b).v ρ h1).bind fun y h2 => R.opt (zipSrc x y) h2
  | .enum a, ρ, h => ((evE a).v ρ h).bind fun x h1 => R.opt (enumSrc x) h1
end

/-! ### statements -/
inductive RS where
  | bad | nxt (ρ : Env) (h : Hh) | ret (d : D) (h : Hh) | brk (ρ : Env) (h : Hh) | cnt (ρ : Env) (h : Hh) | err (ρ : Env) (x : Xc) (h : Hh)
def R.then_ {α : Type} (r : R α) (f : α → Hh → RS) : RS := match r with
  | .bad => .bad
  | .ok a h => f a h
  | .err _ _ => .bad
/-- a call whose exception goes on -/
def R.thenX {α : Type} (r : R α) (ρ : Env) (f : α → Hh → RS) : RS := match r with
  | .bad => .bad
  | .ok a h => f a h
  | .err x h => .err ρ x h
@[simp] theorem R.then_ok {α : Type} (a : α) (h : Hh) (f : α → Hh → RS) : (R.ok a h).then_ f = f a h := rfl
@[simp] theorem R.then_bad {α : Type} (f : α → Hh → RS) : (R.bad : R α).then_ f = .bad := rfl
def RS.then_ (r : RS) (f : Env → Hh → RS) : RS := match r with
  | .nxt ρ h => f ρ h
  | r => r
def RS.opt (o : Option Env) (h : Hh) : RS := match o with
  | some ρ => .nxt ρ h
  | none => .bad
def whlLoop (c : Env → Hh → R Bool) (b : Env → Hh → RS) : Nat → Env → Hh → RS
  | 0, _, _ => .bad
  | n + 1, ρ, h => (c ρ h).then_ fun t h1 => if t then (match b ρ h1 with
      | .nxt ρ' h' => whlLoop c b n ρ' h'
      | .cnt ρ' h' => whlLoop c b n ρ' h'
      | .brk ρ' h' => .nxt ρ' h'
      | r => r) else .nxt ρ h1
def forLoop (good : Hh → Bool) (t : Tg) (b : Env → Hh → RS) : List D → Env → Hh → RS
  | [], ρ, h => if good h then .nxt ρ h else .bad
  | x :: xs, ρ, h => if good h then (match t.put x ρ with
      | none => .bad
      | some ρ1 => match b ρ1 h with
        | .nxt ρ' h' => forLoop good t b xs ρ' h'
        | .cnt ρ' h' => forLoop good t b xs ρ' h'
        | .brk ρ' h' => .nxt ρ' h'
        | r => r) else .bad
/-- so many turns a while may take -/
def wfuel : Nat := 2 ^ 64
def kill : List Nat → Env → Env
  | [], ρ => ρ
  | i :: is, ρ => kill is (ρ.set i none)
def Env.rlt (n : Nat) (ρ : Env) : Bool := ρ.all fun o => match o with
  | some d => d.rlt n
  | none => true
/-- names forgotten, then the objects from n on, if nothing leads to them -/
def gcS (ks : List Nat) (n : Nat) (r : RS) : RS := match r with
  | .nxt ρ h => if Env.rlt n (kill ks ρ) && Hh.rlt (h.take n) n then .nxt (kill ks ρ) (h.take n) else .bad
  | .brk ρ h => if Env.rlt n (kill ks ρ) && Hh.rlt (h.take n) n then .brk (kill ks ρ) (h.take n) else .bad
  | .cnt ρ h => if Env.rlt n (kill ks ρ) && Hh.rlt (h.take n) n then .cnt (kill ks ρ) (h.take n) else .bad
  | r => r
def stoOp (o i x : D) (h : Hh) : Option Hh := match o with
  | .ref r => match h[r]? with
    | some (.lst ys) => match i with
      | .int k => match ixN ys.length k with
        | some j => some (h.set r (.lst (ys.set j x)))
        | none => none
      | _ => none
    | some (.dct kvs) => match i.key with
      | some k => if sizeOk (kvs.length + 1) then some (h.set r (.dct (putD kvs k x))) else none
      | none => none
    | _ => none
  | _ => none
/-- a list grown by another one -/
def augLOp (r : Nat) (y : D) (h : Hh) : Option Hh := match h[r]?, y.own h with
  | some (.lst xs), some ys => if sizeOk (xs.length + ys.length) then some (h.set r (.lst (xs ++ ys))) else none
  | _, _ => none
/-- what the clause takes -/
def catchS (yes no : List Str) (f : Env → Hh → RS) (r : RS) : RS := match r with
  | .err ρ x h => if x.cls ∈ yes then f ρ h else if x.cls ∈ no then .err ρ x h else .bad
  | r => r
/-- .. and names -/
def dropS (i : Nat) (r : RS) : RS := match r with
  | .nxt ρ h => .nxt (ρ.set i none) h
  | .brk ρ h => .brk (ρ.set i none) h
  | .cnt ρ h => .cnt (ρ.set i none) h
  | r => r
def catchAs (yes no : List Str) (i : Nat) (f : Env → Hh → RS) (r : RS) : RS := match r with
  | .err ρ x h => if x.cls ∈ yes then dropS i (f (ρ.set i (some x.d)) h) else if x.cls ∈ no then .err ρ x h else .bad
  | r => r
mutual
def evS : S → Env → Hh → RS
  | .asg i e, ρ, h => ((evE F G e).v ρ h).then_ fun x h1 => .nxt (ρ.set i (some x)) h1
  | .asgLc i e, ρ, h => ((evE F G e).v ρ h).then_ fun x h1 => .nxt (ρ.set i (some x)) h1
  | .par i j a b, ρ, h => ((evE F G a).v ρ h).then_ fun x h1 => ((evE F G b).v ρ h1).then_ fun y h2 => .nxt ((ρ.set i (some x)).set j (some y)) h2
  | .unp is e, ρ, h => ((evE F G e).v ρ h).then_ fun x h1 => RS.opt ((Tg.tu is).put x ρ) h1
  | .sto o i e, ρ, h => ((evE F G e).v ρ h).then_ fun x h1 => ((evE F G o).v ρ h1).then_ fun y h2 => ((evE F G i).v ρ h2).then_ fun z h3 => match stoOp y z x h3 with
    | some h4 => .nxt ρ h4
    | none => .bad
  | .aug i o e, ρ, h => match ρ[i]? with
    | some (some x) => ((evE F G e).v ρ h).then_ fun y h1 => match augOp o x y with
      | some z => .nxt (ρ.set i (some z)) h1
      | none => .bad
    | _ => .bad
  | .augL i e, ρ, h => match ρ[i]? with
    | some (some (.ref r)) => ((evE F G e).v ρ h).then_ fun y h1 => match augLOp r y h1 with
      | some h2 => .nxt (ρ.set i (some (.ref r))) h2
      | none => .bad
    | _ => .bad
  | .exp e, ρ, h => ((evE F G e).v ρ h).then_ fun _ h1 => .nxt ρ h1
  | .ret e, ρ, h => ((evE F G e).v ρ h).then_ fun x h1 => .ret x h1
  | .retN, _, h => .ret .non h
  | .ite c a b, ρ, h => ((evE F G c).t ρ h).then_ fun t h1 => if t then evSs a ρ h1 else evSs b ρ h1
  | .whl c b, ρ, h => whlLoop (evE F G c).t (evSs b) wfuel ρ h
  | .for_ t it b, ρ, h => (evI F G it ρ h).then_ fun s h1 => forLoop s.good t (evSs b) s.items ρ h1
  | .pass, ρ, h => .nxt ρ h
  | .brk, ρ, h => .brk ρ h
  | .cnt, ρ, h => .cnt ρ h
  | .gc ks b, ρ, h => gcS ks h.length (evS b ρ h)
  | .asgC i f es, ρ, h => ((evEs F G es).l ρ h).then_ fun xs h1 => (F f xs h1).thenX ρ fun x h2 => .nxt (ρ.set i (some x)) h2
  | .expC f es, ρ, h => ((evEs F G es).l ρ h).then_ fun xs h1 => (F f xs h1).thenX ρ fun _ h2 => .nxt ρ h2
  | .retC f es, ρ, h => ((evEs F G es).l ρ h).then_ fun xs h1 => (F f xs h1).thenX ρ fun x h2 => .ret x h2
  | .raise_ c, ρ, h => .err ρ ⟨c, none⟩ h
  | .try_ b _ yes no s, ρ, h => catchS yes no (evSs s) (evSs b ρ h)
  | .tryAs b _ yes no i s, ρ, h => catchAs yes no i (evSs s) (evSs b ρ h)
  | .tryAP b _ yes no i i1 j1 a1 b1 s, ρ, h => catchAs yes no i (fun ρ h => (((evE F G a1).v ρ h).then_ fun x h1 => ((evE F G b1).v ρ h1).then_ fun y h2 => .nxt ((ρ.set i1 (some x)).set j1 (some y)) h2).then_ (evSs s)) (evSs b ρ h)
  | .raiseE c e, ρ, h => ((evE F G e).v ρ h).then_ fun _ h1 => .err ρ ⟨c, none⟩ h1
  | .raiseF c f e, ρ, h => ((evE F G e).v ρ h).then_ fun x h1 => .err ρ ⟨c, some (f, x)⟩ h1
  | .bad, _, _ => .bad
def evSs : Ss → Env → Hh → RS
  | .nil, ρ, h => .nxt ρ h
  | .cons s ss, ρ, h => (evS s ρ h).then_ (evSs ss)
end
end

/-- of exception classes: (made, named in a clause, whether it is taken); (caught, asked, answer); (caught, its field) -/
structure Xm where
  m : List (Str × Str × Bool)
  i : List (Str × Str × Bool)
  f : List (Str × Str)
  /-- asked whether it is a ValueError -/
  v : List Str

/-! ### defs -/
structure Fn where
  name : Str
  N : List Str
  P : List Str
  frz : Bool
  body : Ss
  /-- its own name, where the module's name for it is another one -/
  dn : Str := name
  /-- the shapes of its calls with keywords: so many in front, these names, the order -/
  kw : List (Nat × List Str × List Nat) := []
  /-- the name of its lambdas, "" of none -/
  lq : Str := ""
/-- the objects from n on, as they stand -/
def D.frz (h : Hh) (n : Nat) : Nat → D → D
  | 0, d => d
  | k + 1, d => match d with
    | .ref i => if i < n then .ref i else match h[i]? with
      | some (.lst xs) => .lst (xs.map (D.frz h n k))
      | _ => .ref i
    | .tup xs => .tup (xs.map (D.frz h n k))
    | .lst xs => .lst (xs.map (D.frz h n k))
    | d => d
/-- a def's end: its lists are from now on never changed (frz), what it made is let go -/
def finD (f : Bool) (n : Nat) (d : D) (h : Hh) : R D :=
  if f then (if (d.frz h n 4).rlt n && Hh.rlt (h.take n) n then .ok (d.frz h n 4) (h.take n) else .bad) else .ok d h
def finR (f : Bool) (n : Nat) (r : RS) : R D := match r with
  | .ret d h => finD f n d h
  | .nxt _ h => finD f n .non h
  | .err _ x h => .err x h
  | _ => .bad
def callN (T : List Fn) (G : List D) : Nat → Fns
  | 0 => fun _ _ _ => .bad
  | k + 1 => fun f args h => match T[f]? with
    | none => .bad
    | some fn => if args.length = fn.P.length then finR fn.frz h.length (evSs (callN T G k) G fn.body (args.map some ++ List.replicate (fn.N.length - args.length) none) h) else .bad
end PV
end

section
set_option maxRecDepth 100000
/-! PvX: a set made of a list of ints, sorted. -/
namespace PVX
open PySem L2 PyProof.Rows PySem.Spec
abbrev oS (w : World) : Obj := { cls := .type "set", dict := none, data := .set #[] 0 (.fresh 0 0 (!w.params.followText "set-order")) }
abbrev gS (w : World) (h : Heap) : Heap := h.push (oS w)
/-- the heap behind set(l) -/
def After (w : World) (s : Shared) (ns : List Int) (v : Value) (s2 : Shared) : Prop := v = .none ∧ ∃ (g : Heap) (tk c : Nat), s2 = { s with heap := g, toks := tk } ∧ SetR w g s.heap.objs.size (fun j => decide (j ∈ ns)) c ∧ c ≤ ns.length ∧ ∀ b o, s.heap.get? b = some o → g.get? b = some o
section
variable {P : Program} {w : World} {A : Around} {s : Shared} {E : Value → Shared → Prop}
set_option maxHeartbeats 3100000 in
theorem init_list {l : Addr} {items : Array Value} (ns : List Int) (hh : A.handled = none) (hl : s.heap.IsList l items) (hit : IntsAre items.toList ns) (hb : ns.length + 1 < scanBound) :
    codeAny (model P w) A (.call (.builtin "set.__init__") ⟨[.ref s.heap.objs.size, .ref l], []⟩) (wants (After w s ns) E) { s with heap := gS w s.heap } := by
  have zi : items.size = ns.length := by rw [← Array.length_toList]; exact IntsAre.length hit
  have at0 : (gS w s.heap).get? s.heap.objs.size = some (oS w) := Heap.get?_push_size _ rfl
  have ty0 : Shared.TypeIs { s with heap := gS w s.heap } (.ref s.heap.objs.size) "set" := ⟨_, at0, rfl⟩
  refine codeAny_call_builtin F.called_set.init.plain F.entry_set_init (check_set_init_1 ty0 ?_)
  have ll : (gS w s.heap).IsList l items := hl.push _
  obtain ⟨⟨cl, dc, dt, sl⟩, got, ec, nl, ed⟩ := hl
  cases (show cl = .type "list" from ec)
  cases (show dt = .seq items nl from ed)
  have got1 : (gS w s.heap).get? l = some { cls := .type "list", dict := dc, data := .seq items nl, slots := sl } := Heap.get?_push_of_some _ got
  have f1 := F.sub_list_set
  have f2 := F.sub_list_frozenset
  have f3 : (Value.type "list" == Value.type "dict") = false := by decide
  (unfold Builtin.«set.__init__» noKeywords Builtin.Frozenset.updateFrom)
  generalize q : pyIter = it0
  wp_walk
  subst q
  refine wpAny_pyIter_list ll (wpAny_bind (wpAny_runValue ?_))
  have lts : l < s.heap.objs.size := Heap.lt_size got
  have z1 : (gS w s.heap).objs.size = s.heap.objs.size + 1 := Heap.size_push ..
  have n1 : l ≠ (gS w s.heap).objs.size := Nat.ne_of_lt (Nat.lt_of_lt_of_le lts (by rw [z1]; exact Nat.le_succ _))
  have n2 : s.heap.objs.size ∉ [(gS w s.heap).objs.size, l] := by
    intro hm
    (rcases List.mem_cons.mp hm with e | e)
    · rw [z1] at e; omega
    · exact Nat.lt_irrefl _ (Nat.lt_of_le_of_lt (Nat.le_of_eq (List.mem_singleton.mp e)) lts)
  refine set_update_ints ((Walks.list (by simpa using hh) _ l n1 items).toS) s.heap.objs.size n2 ns zi hb (fun i v hv => ?_) (items.size - 0) 0 _ (Nat.sub_zero _) (Nat.zero_le _) ⟨⟨_, Heap.get?_push_size _ rfl, rfl, rfl⟩, ll.push _⟩ ⟨0, Nat.le_refl 0, setR_new_at (Heap.get?_push_of_some _ at0)⟩ ?_
  · have lt : i < ns.length := by rw [← zi]; exact (Array.getElem?_eq_some_iff.mp hv).1
    obtain ⟨t, e⟩ := IntsAre.int_at hit i v (by rw [Array.getElem?_toList]; exact hv)
    exact ⟨ns[i], t, List.getElem?_eq_getElem lt, by rw [e, List.getD_eq_getElem?_getD, List.getElem?_eq_getElem lt] <;> rfl⟩
  · rintro ⟨g, gn, dr, tk, os⟩ c mv hc sr
    cases (show gn = s.gens from mv.gens)
    cases (show dr = s.drawn from mv.drawn)
    cases (show os = s.os from mv.os)
    refine wpAny_pure (wpAny_pure ⟨rfl, g, tk, c, rfl, sr, by rw [← zi]; exact hc, fun b o e => ?_⟩)
    have lb : b < s.heap.objs.size := Heap.lt_size e
    refine mv.heap b o (fun hm => ?_) (Heap.get?_push_of_some _ (Heap.get?_push_of_some _ e))
    rcases List.mem_cons.mp hm with e2 | e2
    · have e2 : b = s.heap.objs.size := e2
      exact Nat.ne_of_lt lb e2
    · have e2 : b = (gS w s.heap).objs.size := List.mem_singleton.mp e2
      rw [z1] at e2; exact Nat.ne_of_lt (Nat.lt_succ_of_lt lb) e2
/-- set(l) of a list of ints -/
theorem call_set_lst {l : Addr} {items : Array Value} (ns : List Int) {Q : Value → Shared → Prop} (hh : A.handled = none) (hl : s.heap.IsList l items) (hit : IntsAre items.toList ns) (hb : ns.length + 1 < scanBound)
    (hQ : ∀ (g : Heap) (tk c : Nat), SetR w g s.heap.objs.size (fun j => decide (j ∈ ns)) c → c ≤ ns.length → (∀ b o, s.heap.get? b = some o → g.get? b = some o) → Q (.ref s.heap.objs.size) { s with heap := g, toks := tk }) :
    (wpAny (model P w) A (call (.type "set") [.ref l]) Q E s) := by
  have ft := F.called_set
  obtain ⟨c0, tl, hmro⟩ := ft.mro
  have hmade := ft.made
  have hsub := ft.sub
  (refine wpAny_call (codeAny_of_tree ?_))
  (show wpAny _ _ (callAny (.type "set") _) _ _ _)
  (refine wpAny_pure ⟨Code.quiet_builtin _ (by decide +kernel), codeAny_builtin F.entry_type_call ?_⟩)
  (rw [Around.under_plain (weight_type_call_type "set" [.ref l] []) rfl])
  have k1 := ft.notType
  have k2 := ft.canCreate
  have k3 := F.typeCall_set_1 (.ref l)
  repeat any_goals (first | assumption | wp_step)
  refine codeAny_mono (code_set_led1 (.ref l) (E := E) (Q₁ := fun v s1 => v = .ref s.heap.objs.size ∧ s1 = { s with heap := gS w s.heap }) ⟨rfl, rfl⟩) fun r s1 hr => ?_
  cases r with
  | error e => exact hr
  | ok fl => cases fl with
    | ret v =>
      obtain ⟨rfl, rfl⟩ := hr
      have k4 : Shared.TypeIs { s with heap := gS w s.heap } (.ref s.heap.objs.size) "set" := ⟨_, Heap.get?_push_size _ rfl, rfl⟩
      have k5 := ft.init.lookup
      have k6 := ft.init.bind (.ref s.heap.objs.size)
      repeat any_goals (first | assumption | wp_step)
      refine codeAny_mono (init_list (E := E) ns (A := A.in1) hh hl hit hb) fun r2 s2 hr2 => ?_
      cases r2 with
      | error e => exact hr2
      | ok fl2 => cases fl2 with
        | ret v2 =>
          obtain ⟨rfl, g, tk, c, rfl, sr, hc, keep⟩ := hr2
          repeat any_goals (first | assumption | wp_step)
          exact hQ g tk c sr hc keep
        | _ => exact hr2.elim
    | _ => exact hr.elim
/-- what stands behind a collecting of a sequence -/
def Got (s : Shared) (its : Array Value) (s2 : Shared) : Prop := s2 = { s with heap := (s.heap.push { cls := .type "list", data := .seq ([] : List Value).toArray }).update s.heap.objs.size (Obj.mapSeq (· ++ its)) }
theorem collect_seqX {Q : List Value → Shared → Prop} {a : Addr} {T : String} {o : Obj} {its : Array Value} {n : Nat} (hT : T = "list" ∨ T = "tuple") (ho : s.heap.get? a = some o) (hc : o.cls = .type T) (hd : o.data = .seq its n) (hz : its.size ≤ sizeLine)
    (hQ : ∀ g : Heap, (∀ b o2, s.heap.get? b = some o2 → g.get? b = some o2) → s.heap.objs.size ≤ g.objs.size → Q its.toList { s with heap := g }) : wpAny (model P w) A (collect (.ref a)) Q E s := by
  have k0 : (s.heap.push { cls := .type "list", data := .seq ([] : List Value).toArray }).get? s.heap.objs.size = some { cls := .type "list", data := .seq ([] : List Value).toArray } := Heap.get?_push_size _ rfl
  have k1 := Heap.get?_update_self (Obj.mapSeq (· ++ its)) k0 rfl
  have close : ∀ s2, Got s its s2 → wpAny (model P w) A (load s.heap.objs.size >>= fun ob => match ob.data with
      | .seq xs _ => pure xs.toList
      | _ => unsupported "internal:collect") Q E s2 := fun s2 e => by
    subst e
    refine wpAny_bind (wpAny_load k1 (wpAny_pure ?_))
    have e2 : ((#[] : Array Value) ++ its).toList = its.toList := by simp
    (show Q ((#[] : Array Value) ++ its).toList _)
    rw [e2]
    exact hQ _ (fun b o2 hb => (Heap.get?_update_other _ _ (Nat.ne_of_gt (Heap.lt_size hb))).trans (Heap.get?_push_of_some _ hb)) (by rw [Heap.size_update, Heap.size_push]; exact Nat.le_succ _)
  unfold collect
  refine wpAny_bind (wpAny_runValue (codeAny_builtin F.entry_proto_collect ?_)); rw [Around.under_plainId F.plain_proto_collect _]
  (show wpAny _ A.in1 (newList [] >>= fun l => again (.builtin "list.__iadd__" ⟨[l, .ref a], []⟩)) _ _ s)
  refine wpAny_bind (wpAny_newObj_type (wpAny_pure ⟨plainId_quiet F.plain_list_iadd _, codeAny_builtin F.entry_list_iadd ?_⟩)); rw [Around.under_plainId F.plain_list_iadd _]
  refine wpAny_mono (wpAny_extend_seq (hsz := hz) (A := A) (R := fun r s2 => r = .ok (.ret (.ref s.heap.objs.size)) ∧ Got s its s2) (s := { s with heap := s.heap.push { cls := .type "list", data := .seq ([] : List Value).toArray } }) _ a _ 0 hT k0 (Heap.get?_push_of_some _ ho) hc hd ⟨rfl, rfl⟩) (fun fin s2 r => ?_) (fun e s2 r => ?_)
  · cases fin with
    | done f => obtain ⟨e, r⟩ := r; cases e; exact close s2 r
    | again c => exact ⟨r.1, codeAny_mono r.2 fun rr s3 ⟨e, r⟩ => by subst e; exact close s3 r⟩
  · exact absurd r.1 (by simp)
/-- sorted(xs) of a list or a tuple -/
theorem sorted_seqI {ns : List Int} {Q : Value → Shared → Prop} {a : Addr} {T : String} {o : Obj} {its : Array Value} {n : Nat} (hT : T = "list" ∨ T = "tuple") (ho : s.heap.get? a = some o) (hc : o.cls = .type T) (hd : o.data = .seq its n) (hI : IntsAre its.toList ns) (h64 : ns.length < 64)
    (hQ : ∀ (p : Addr) (g : Heap) (c : Nat) (out : Array Value) (ns2 : List Int), (∀ b o2, s.heap.get? b = some o2 → g.get? b = some o2) → s.heap.objs.size ≤ p → g.get? p = some (seqObj "list" out c) → IntsAre out.toList ns2 → ns2.Perm ns → ns2.Pairwise (· ≤ ·) → Q (.ref p) { s with heap := g }) :
    (wpAny (model P w) A (call (.builtin "sorted") [.ref a]) Q E s) := by
  have zl : its.toList.length = ns.length := IntsAre.length hI
  have zz : its.size = ns.length := by rw [← zl, Array.length_toList]
  (refine Calls.call_function_entry kind_sorted plain_sorted entry_sorted (args_sorted1 _) ?_)
  unfold Builtin.«sorted»
  refine wpAny_bind (m := checkCount "sorted" 1 1 _) (wpAny_pure (wpAny_bind (collect_seqX (A := A.in1) hT ho hc hd (by rw [zz, sizeLine_eq]; omega) fun g keep hsz => wpAny_bind (wpAny_newList ?_ (by rw [zl, sizeLine_eq]; omega)))))
  have at1 : (g.push (seqObj "list" its.toList.toArray 0)).get? g.objs.size = some (seqObj "list" its.toList.toArray 0) := Heap.get?_push_size _ rfl
  refine wpAny_bind (wpAny_holding (wpAny_call_entry slot_list_sort ⟨_, at1, rfl⟩ entry_list_sort (list_sort_tree at1 hI (by rw [zl]; exact h64) fun out ns2 a1 a2 a3 => ⟨_, rfl, ?_⟩) (args_list_sort _)))
  obtain ⟨c, hc⟩ := sortedHeap_at (vs := its.toList) (out := out) at1
  refine wpAny_pure ⟨_, rfl, hQ g.objs.size _ c out ns2 (fun b u e => ?_) hsz hc a1 a2 a3⟩
  have e := keep b u e
  have lt := Heap.lt_size e
  exact (sortedHeap_old (Nat.ne_of_lt lt) (by rw [size_push']; exact Nat.lt_succ_of_lt lt)).trans (Heap.get?_push_of_some _ e)
theorem sorted_seqS {ns : List Str} {Q : Value → Shared → Prop} {a : Addr} {T : String} {o : Obj} {its : Array Value} {n : Nat} (hT : T = "list" ∨ T = "tuple") (ho : s.heap.get? a = some o) (hc : o.cls = .type T) (hd : o.data = .seq its n) (hI : StrsAre its.toList ns) (h64 : ns.length < 64)
    (hQ : ∀ (p : Addr) (g : Heap) (c : Nat) (out : Array Value) (ns2 : List Str), (∀ b o2, s.heap.get? b = some o2 → g.get? b = some o2) → s.heap.objs.size ≤ p → g.get? p = some (seqObj "list" out c) → StrsAre out.toList ns2 → ns2.Perm ns → sortedS ns2 = true → Q (.ref p) { s with heap := g }) :
    (wpAny (model P w) A (call (.builtin "sorted") [.ref a]) Q E s) := by
  have zl : its.toList.length = ns.length := StrsAre.length hI
  have zz : its.size = ns.length := by rw [← zl, Array.length_toList]
  (refine Calls.call_function_entry kind_sorted plain_sorted entry_sorted (args_sorted1 _) ?_)
  unfold Builtin.«sorted»
  refine wpAny_bind (m := checkCount "sorted" 1 1 _) (wpAny_pure (wpAny_bind (collect_seqX (A := A.in1) hT ho hc hd (by rw [zz, sizeLine_eq]; omega) fun g keep hsz => wpAny_bind (wpAny_newList ?_ (by rw [zl, sizeLine_eq]; omega)))))
  have at1 : (g.push (seqObj "list" its.toList.toArray 0)).get? g.objs.size = some (seqObj "list" its.toList.toArray 0) := Heap.get?_push_size _ rfl
  refine wpAny_bind (wpAny_holding (wpAny_call_entry slot_list_sort ⟨_, at1, rfl⟩ entry_list_sort (list_sort_treeK strKind_oneLt at1 hI.keysOf (fun v1 v2 r e => keyKind_strs (by rw [← e]; exact hI)) (by rw [zl]; exact h64) fun st a1 a2 => ⟨_, rfl, ?_⟩) (args_list_sort _)))
  obtain ⟨ns2, b1, b2, b3⟩ := sorted_out_str hI a1 a2
  obtain ⟨c, hc⟩ := sortedHeap_at (vs := its.toList) (out := (arrOf st).map (·.2)) at1
  refine wpAny_pure ⟨_, rfl, hQ g.objs.size _ c _ ns2 (fun b u e => ?_) hsz hc b1 b2 b3⟩
  have e := keep b u e
  have lt := Heap.lt_size e
  exact (sortedHeap_old (Nat.ne_of_lt lt) (by rw [size_push']; exact Nat.lt_succ_of_lt lt)).trans (Heap.get?_push_of_some _ e)
end
section
variable {X : Cx}
def rSetL (K : PySem.W.Frag) (w : World) : List V → Hp → VK → Prop := fun xs H Q => ∃ (a : Addr) (ns : List Int), xs = [.ref a] ∧ SqL K H a (ns.map V.int) ∧ ns.length < 64 ∧ ∀ p c, H p = none → c ≤ ns.length → Q (.ref p) (upd H p (SetO w p (fun j => decide (j ∈ ns)) c))
theorem cr_setL (hc : X.calm = true) : CallR X (.type "set") (rSetL X.K X.w) := by
  intro pins s σ H xs us Q I r ⟨a, ns, e, hs, h64, q⟩
  subst e
  (obtain ⟨its, rv, hl, _⟩ := I.list hs)
  rw [Vals.ref1 r]
  have hi : IntsAre its.toArray.toList ns := by simpa using rv.ints
  exact call_set_lst ns (I.ok.hd hc) hl.isList hi (by unfold scanBound; omega) fun g tk c sr hc2 keep => ⟨.ref _, _, I.laid (t' := tk) keep (Nat.le_refl _) (setO_new sr), rfl, q _ c (I.hok.fresh (Nat.le_refl _)) hc2⟩
def rSrtI (K : PySem.W.Frag) : List V → Hp → VK → Prop := fun xs H Q => ∃ (a : Addr) (ns : List Int), xs = [.ref a] ∧ (SqL K H a (ns.map V.int) ∨ SqT K H a (ns.map V.int)) ∧ ns.length < 64 ∧ ∀ (ns2 : List Int) (p : Addr), ns2.Perm ns → ns2.Pairwise (· ≤ ·) → H p = none → Q (.ref p) (upd H p (.lst (ns2.map V.int)))
def rSrtS (K : PySem.W.Frag) : List V → Hp → VK → Prop := fun xs H Q => ∃ (a : Addr) (ns : List Str), xs = [.ref a] ∧ (SqL K H a (ns.map V.str) ∨ SqT K H a (ns.map V.str)) ∧ ns.length < 64 ∧ ∀ (ns2 : List Str) (p : Addr), ns2.Perm ns → sortedS ns2 = true → H p = none → Q (.ref p) (upd H p (.lst (ns2.map V.str)))
theorem cr_srtI : CallR X (.builtin "sorted") (rSrtI X.K) := by
  intro pins s σ H xs us Q I r ⟨a, ns, e, hs, h64, q⟩
  subst e
  rw [Vals.ref1 r]
  obtain ⟨its, T, o, n, rv, hT, ho, hc, hd⟩ : ∃ (its : List Value) (T : String) (o : Obj) (n : Nat), Vals (ns.map V.int) its ∧ (T = "list" ∨ T = "tuple") ∧ s.heap.get? a = some o ∧ o.cls = .type T ∧ o.data = .seq its.toArray n := by
    rcases hs with hs | hs
    · obtain ⟨its, rv, hl, _⟩ := I.list hs
      obtain ⟨o, ho, hc, n, hd⟩ := hl.isList
      exact ⟨its, _, o, n, rv, .inl rfl, ho, hc, hd⟩
    · obtain ⟨its, rv, ⟨o, ho, hc, n, hd⟩, _⟩ := I.tuple hs
      exact ⟨its, _, o, n, rv, .inr rfl, ho, hc, hd⟩
  refine sorted_seqI hT ho hc hd (by simpa using rv.ints) h64 fun p g c out ns2 keep hp hg a1 a2 a3 => ?_
  have hlen : (ns2.map V.int).length ≤ sizeLine := by rw [List.length_map, a2.length_eq]; exact small64 h64
  exact ⟨.ref p, _, I.laid (t' := s.toks) (o := .lst (ns2.map V.int)) keep hp ⟨hlen, out.toList, c, vals_of_ints a1, hg⟩, rfl, q ns2 p a2 a3 (I.hok.fresh hp)⟩
theorem cr_srtS : CallR X (.builtin "sorted") (rSrtS X.K) := by
  intro pins s σ H xs us Q I r ⟨a, ns, e, hs, h64, q⟩
  subst e
  rw [Vals.ref1 r]
  obtain ⟨its, T, o, n, rv, hT, ho, hc, hd⟩ : ∃ (its : List Value) (T : String) (o : Obj) (n : Nat), Vals (ns.map V.str) its ∧ (T = "list" ∨ T = "tuple") ∧ s.heap.get? a = some o ∧ o.cls = .type T ∧ o.data = .seq its.toArray n := by
    rcases hs with hs | hs
    · obtain ⟨its, rv, hl, _⟩ := I.list hs
      obtain ⟨o, ho, hc, n, hd⟩ := hl.isList
      exact ⟨its, _, o, n, rv, .inl rfl, ho, hc, hd⟩
    · obtain ⟨its, rv, ⟨o, ho, hc, n, hd⟩, _⟩ := I.tuple hs
      exact ⟨its, _, o, n, rv, .inr rfl, ho, hc, hd⟩
  refine sorted_seqS hT ho hc hd (by simpa using rv.strs) h64 fun p g c out ns2 keep hp hg a1 a2 a3 => ?_
  have hlen : (ns2.map V.str).length ≤ sizeLine := by rw [List.length_map, a2.length_eq]; exact small64 h64
  exact ⟨.ref p, _, I.laid (t' := s.toks) (o := .lst (ns2.map V.str)) keep hp ⟨hlen, out.toList, c, vals_of_strs a1, hg⟩, rfl, q ns2 p a2 a3 (I.hok.fresh hp)⟩
/-- a tuple times a number, more of them -/
def rTimes (K : PySem.W.Frag) : R2 := fun x y H Q => ∃ l k xs, x = .ref l ∧ y = .int k ∧ SqT K H l xs ∧ xs ≠ [] ∧ 2 ≤ k ∧ k ≤ 1000000 ∧ k.toNat * xs.length ≤ 1000000 ∧ ∀ p, H p = none → Q (.ref p) (upd H p (.tup (List.replicate k.toNat xs).flatten))
theorem op_times : OpR X (binaryOp .Mult) (rTimes X.K) := by
  intro pins s σ H x y v u Q I rx ry ⟨l, k, xs, ex, ey, hT, hne, k1, k2, kz, q⟩
  subst ex; subst ey
  cases rx
  obtain ⟨t, rfl⟩ := ry
  obtain ⟨its, r, ⟨⟨cls, dd, data, sl⟩, got, ec, n, ed⟩, _⟩ := I.tuple hT
  cases (show cls = .type "tuple" from ec)
  cases (show data = .seq its.toArray n from ed)
  have zl : its.length = xs.length := r.length.symm
  have lz : (its.toArray.size : Nat) = xs.length := by rw [List.size_toArray, zl]
  have pos : 0 < xs.length := List.length_pos_iff.mpr hne
  have kn : ((k.toNat : Nat) : Int) = k := Int.toNat_of_nonneg (by omega)
  have pz : ((its.toArray.size : Nat) : Int) * k ≤ 1000000 := by
    have z : ((k.toNat * xs.length : Nat) : Int) ≤ ((1000000 : Nat) : Int) := Int.ofNat_le.mpr kz
    rw [Int.natCast_mul, kn] at z
    rw [lz, Int.mul_comm]; exact z
  have em : its.toArray.isEmpty = false := by
    cases its with
    | nil => rw [List.length_nil] at zl; omega
    | cons _ _ => rfl
  have fl : (List.replicate k.toNat its).flatten.length ≤ sizeLine := by rw [PyProof.Rows.lm_len_rep_flat, zl, sizeLine_eq]; omega
  have d0 : (decide (k < -(2 ^ 63)) || decide (k ≥ 2 ^ 63)) = false := by
    (rw [decide_eq_false (by omega), decide_eq_false (by omega)] <;> rfl)
  have d1 : (its.toArray.isEmpty || k == 1) = false := by rw [em]; simp; omega
  have d2 : (decide (k ≤ 0) || its.toArray.isEmpty) = false := by rw [em]; simp; omega
  have d4 : Builtin.Tuple.tupleTooMany (((its.toArray.size : Nat) : Int) * k) = false := by
    unfold Builtin.Tuple.tupleTooMany; rw [sizeLine_eq]; exact decide_eq_false (by omega)
  have mul := tuple_mulW l its.toArray n dd sl k t d0 d1 d2 (by omega) d4 (by rw [size_rep, List.size_toArray]; exact fl)
  refine wpAny_binaryOp_repeat_ref (T := "tuple") (U := "int") (by decide) ⟨_, got, rfl⟩ (fun s2 => typeIs_int s2 k t) noFill_tuple_mul F.fills_int_mul F.slot_int_rmul repeat_tuple F.slot_int_index.lookup (call_meets F.slot_int_rmul (typeIs_int s k t) F.entry_int_rmul (F.args_int_rmul_2 _ _) (int_rmul_tuple k t l its.toArray n dd sl) ⟨got, rfl, ⟨_, got, rfl⟩, call_meets F.slot_tuple_mul ⟨_, got, rfl⟩ F.entry_tuple_mul (F.args_tuple_mul_2 _ _) mul ⟨got, ?_⟩⟩)
  rw [size_rep]
  exact ⟨.ref s.heap.objs.size, _, I.laid (t' := s.toks) (o := .tup (List.replicate k.toNat xs).flatten) (fun b ob e => Heap.get?_push_of_some _ e) (Nat.le_refl _) ⟨by rw [PyProof.Rows.lm_len_rep_flat, sizeLine_eq]; omega, _, r.rep k.toNat, IsTup.new _ _⟩, rfl, q _ (I.hok.fresh (Nat.le_refl _))⟩
end
end PVX
end

section
set_option maxRecDepth 100000
namespace PV
open L2 PySem PySem.Spec PyProof.Rows

/-- an exception object of the class cls, its dict d -/
def ExD (cls : Value) (d : Option Addr) (a : Addr) : HO := .ext fun h => ∃ (oe : Obj) (vs : Array Value), h.get? a = some oe ∧ L2N.Zn cls d oe ∧ oe.data = .fields vs
/-- where the mutable objects stand; addresses that no data may name -/
structure Jn where
  l : List Addr
  z : List Addr
section
variable (K : PySem.W.Frag)
mutual
/-- data as it lies in the heap -/
inductive RD (J : Jn) (H : Hp) : D → V → Prop
  | non : RD J H .non .non
  | bl (b : Bool) : RD J H (.bl b) (.bl b)
  | int (i : Int) : RD J H (.int i) (.int i)
  | str (x : Str) : RD J H (.str x) (.str x)
  | tup {a : Addr} {ds : List D} {vs : List V} : a ∉ J.l → a ∉ J.z → H a = some (.tup vs) → vs.length ≤ sizeLine → RDs J H ds vs → RD J H (.tup ds) (.ref a)
  | ktup {a : Addr} {ds : List D} {vs : List V} (k : ∃ (o : Obj) (its : Array Value) (n : Nat), K.lookup a = some o ∧ o.cls = .type "tuple" ∧ o.data = .seq its n ∧ its.size ≤ sizeLine ∧ Vals vs its.toList) : vs.length ≤ sizeLine → RDs J H ds vs → RD J H (.tup ds) (.ref a)
  | lst {a : Addr} {ds : List D} {vs : List V} : a ∉ J.l → a ∉ J.z → H a = some (.lst vs) → vs.length ≤ sizeLine → RDs J H ds vs → RD J H (.lst ds) (.ref a)
  | ref {i : Nat} {a : Addr} : J.l[i]? = some a → RD J H (.ref i) (.ref a)
  | fz {a : Addr} {o : Obj} {ds : List D} {vs : List V} : a ∉ J.l → a ∉ J.z → H a = some (.frz o (.lst vs)) → vs.length ≤ sizeLine → RDs J H ds vs → RD J H (.fz ds) (.ref a)
  | ft {a : Addr} {o : Obj} {ds : List D} {vs : List V} : a ∉ J.l → a ∉ J.z → H a = some (.frz o (.tup vs)) → o.cls = .type "tuple" → o.dict = none → vs.length ≤ sizeLine → RDs J H ds vs → RD J H (.ftup ds) (.ref a)
  | kfz {a : Addr} {ds : List D} {vs : List V} (k : ∃ (o : Obj) (its : Array Value) (n : Nat), K.lookup a = some o ∧ o.cls = .type "list" ∧ o.dict = none ∧ o.data = .seq its n ∧ its.size ≤ sizeLine ∧ Vals vs its.toList) : vs.length ≤ sizeLine → RDs J H ds vs → RD J H (.fz ds) (.ref a)
  | exc {a : Addr} {c : Str} : a ∉ J.l → a ∉ J.z → H a = some (ExD (.ref (He.ga K c)) none a) → RD J H (.exc c) (.ref a)
  | exf {a b : Addr} {c f : Str} {d : D} {v : V} : a ∉ J.l → a ∉ J.z → H a = some (ExD (.ref (He.ga K c)) (some b) a) → b ∉ J.l → b ∉ J.z → H b = some (.xd [(f, v)]) → RD J H d v → RD J H (.exf c f d) (.ref a)
inductive RDs (J : Jn) (H : Hp) : List D → List V → Prop
  | nil : RDs J H [] []
  | cons {d : D} {ds : List D} {v : V} {vs : List V} : RD J H d v → RDs J H ds vs → RDs J H (d :: ds) (v :: vs)
end
inductive RO (J : Jn) (H : Hp) : O → HO → Prop
  | lst {ds : List D} {vs : List V} : vs.length ≤ sizeLine → RDs K J H ds vs → RO J H (.lst ds) (.lst vs)
  | tb {P : Nat} {q : Str} {ps : Array Value} : TriplesOk ps.toList → (∀ (pos : Pos) (cv : Value), codeAmong pos ps.toList = some cv → ∃ c, cv = .ref c ∧ c ∉ J.l ∧ c ∉ J.z ∧ H c = some (LamX.CodeO c q)) → RO J H (.tb P q) (.tbl ps)
  | dct {kvs : List (Key × D)} {kws : List (Key × V)} : kws.length ≤ sizeLine → Paired (fun p q => p.1 = q.1 ∧ RD K J H p.2 q.2) kvs kws → RO J H (.dct kvs) (.dK kws)
structure RH (J : Jn) (h : Hh) (H : Hp) : Prop where
  nd : J.l.Nodup
  len : J.l.length = h.length
  obj : ∀ (i : Nat) (o : O), h[i]? = some o → ∃ a u, J.l[i]? = some a ∧ H a = some u ∧ RO K J H o u
  apart : ∀ a ∈ J.z, a ∉ J.l
  zed : ∀ a ∈ J.z, H a ≠ none
  tbs : ∀ (i : Nat) (P : Nat) (q : Str), h[i]? = some (.tb P q) → J.l[i]? = some P
end
/-- what stood, stands, but for the mutable objects; the new ones were not there -/
structure Ext (J : Jn) (H : Hp) (J' : Jn) (H' : Hp) : Prop where
  z : J'.z = J.z
  pre : ∃ m, J'.l = J.l ++ m ∧ ∀ a ∈ m, H a = none
  keep : ∀ a o, a ∉ J.l → H a = some o → H' a = some o

section
variable {K : PySem.W.Frag} {J J' J2 : Jn} {H H' H2 : Hp} {h h' : Hh} {d : D} {v : V} {ds : List D} {vs : List V}
theorem RDs.length (r : RDs K J H ds vs) : ds.length = vs.length := by
  induction ds generalizing vs with
  | nil => cases r; rfl
  | cons d ds ih => cases r with | cons _ t => simp [ih t]
theorem RDs.get : ∀ {ds : List D} {vs : List V} {i : Nat} {d : D}, RDs K J H ds vs → ds[i]? = some d → ∃ v, vs[i]? = some v ∧ RD K J H d v
  | _, _, _, _, .nil, e => (by simp at e)
  | _, _, 0, _, .cons r _, e => (by simp at e; subst e; exact ⟨_, rfl, r⟩)
  | _, _, i + 1, _, .cons _ t, e => by
    obtain ⟨v, h1, h2⟩ := RDs.get (i := i) t (by simpa using e)
    exact ⟨v, by simpa using h1, h2⟩
theorem RDs.getV : ∀ {ds : List D} {vs : List V} {i : Nat} {v : V}, RDs K J H ds vs → vs[i]? = some v → ∃ d, ds[i]? = some d ∧ RD K J H d v
  | _, _, _, _, .nil, e => (by simp at e)
  | _, _, 0, _, .cons r _, e => (by simp at e; subst e; exact ⟨_, rfl, r⟩)
  | _, _, i + 1, _, .cons _ t, e => by
    obtain ⟨v, h1, h2⟩ := RDs.getV (i := i) t (by simpa using e)
    exact ⟨v, by simpa using h1, h2⟩
theorem RDs.append : ∀ {ds es : List D} {vs ws : List V}, RDs K J H ds vs → RDs K J H es ws → RDs K J H (ds ++ es) (vs ++ ws)
  | _, _, _, _, .nil, s => s
  | _, _, _, _, .cons r t, s => .cons r (RDs.append t s)
theorem RDs.take : ∀ {ds : List D} {vs : List V} (n : Nat), RDs K J H ds vs → RDs K J H (ds.take n) (vs.take n)
  | _, _, 0, _ => by simp; exact .nil
  | _, _, _ + 1, .nil => .nil
  | _, _, n + 1, .cons r t => .cons r (RDs.take n t)
theorem RDs.drop : ∀ {ds : List D} {vs : List V} (n : Nat), RDs K J H ds vs → RDs K J H (ds.drop n) (vs.drop n)
  | _, _, 0, r => r
  | _, _, _ + 1, .nil => .nil
  | _, _, n + 1, .cons _ t => RDs.drop n t
theorem RDs.set : ∀ {ds : List D} {vs : List V} (i : Nat) {d : D} {v : V}, RD K J H d v → RDs K J H ds vs → RDs K J H (ds.set i d) (vs.set i v)
  | _, _, _, _, _, _, .nil => .nil
  | _, _, 0, _, _, r, .cons _ t => .cons r t
  | _, _, i + 1, _, _, r, .cons q t => .cons q (RDs.set i r t)
theorem RDs.eraseIdx : ∀ {ds : List D} {vs : List V} (i : Nat), RDs K J H ds vs → RDs K J H (ds.eraseIdx i) (vs.eraseIdx i)
  | _, _, _, .nil => .nil
  | _, _, 0, .cons _ t => t
  | _, _, i + 1, .cons q t => .cons q (RDs.eraseIdx i t)
theorem RDs.dropLast (r : RDs K J H ds vs) : RDs K J H ds.dropLast vs.dropLast := by
  rw [List.dropLast_eq_take, List.dropLast_eq_take, r.length]
  exact r.take _
theorem RDs.replicate (r : RDs K J H ds vs) : ∀ n : Nat, RDs K J H (List.replicate n ds).flatten (List.replicate n vs).flatten
  | 0 => .nil
  | n + 1 => by
    (rw [List.replicate_succ, List.replicate_succ, List.flatten_cons, List.flatten_cons])
    exact r.append (RDs.replicate r n)

theorem Ext.refl : Ext J H J H := ⟨rfl, ⟨[], by simp, by simp⟩, fun _ _ _ e => e⟩
theorem Ext.notin (e : Ext J H J' H') {a : Addr} {o : HO} (n : a ∉ J.l) (q : H a = some o) : a ∉ J'.l := by
  obtain ⟨m, hm, f⟩ := e.pre
  rw [hm]
  intro hm
  rcases List.mem_append.mp hm with z | z
  · exact n z
  · rw [f a z] at q; cases q
theorem Ext.get (e : Ext J H J' H') {i : Nat} {a : Addr} (q : J.l[i]? = some a) : J'.l[i]? = some a := by
  obtain ⟨m, hm, _⟩ := e.pre
  have hl : i < J.l.length := (List.getElem?_eq_some_iff.mp q).1
  rw [hm, List.getElem?_append_left hl]; exact q
mutual
theorem RD.ext (e : Ext J H J' H') : ∀ {d : D} {v : V}, RD K J H d v → RD K J' H' d v
  | _, _, .non => .non
  | _, _, .bl b => .bl b
  | _, _, .int i => .int i
  | _, _, .str x => .str x
  | _, _, .tup n m q z r => .tup (e.notin n q) (by rw [e.z]; exact m) (e.keep _ _ n q) z (RDs.ext e r)
  | _, _, .ktup k z r => .ktup k z (RDs.ext e r)
  | _, _, .lst n m q z r => .lst (e.notin n q) (by rw [e.z]; exact m) (e.keep _ _ n q) z (RDs.ext e r)
  | _, _, .ref q => .ref (e.get q)
  | _, _, .fz n m q z r => .fz (e.notin n q) (by rw [e.z]; exact m) (e.keep _ _ n q) z (RDs.ext e r)
  | _, _, .kfz k z r => .kfz k z (RDs.ext e r)
  | _, _, .ft n m q c d z r => .ft (e.notin n q) (by rw [e.z]; exact m) (e.keep _ _ n q) c d z (RDs.ext e r)
  | _, _, .exc n m q => .exc (e.notin n q) (by rw [e.z]; exact m) (e.keep _ _ n q)
  | _, _, .exf n m q n2 m2 q2 r => .exf (e.notin n q) (by rw [e.z]; exact m) (e.keep _ _ n q) (e.notin n2 q2) (by rw [e.z]; exact m2) (e.keep _ _ n2 q2) (RD.ext e r)
theorem RDs.ext (e : Ext J H J' H') : ∀ {ds : List D} {vs : List V}, RDs K J H ds vs → RDs K J' H' ds vs
  | _, _, .nil => .nil
  | _, _, .cons r t => .cons (RD.ext e r) (RDs.ext e t)
end
theorem RO.ext (e : Ext J H J' H') {o : O} {u : HO} (r : RO K J H o u) : RO K J' H' o u := by
  cases r with
  | lst z r => exact .lst z (r.ext e)
  | dct z r => exact .dct z (Paired.mapP r fun p q x => ⟨x.1, x.2.ext e⟩)
  | tb t r => exact .tb t fun pos cv hc => let ⟨c, e1, n1, n2, e2⟩ := r pos cv hc; ⟨c, e1, e.notin n1 e2, (by rw [e.z]; exact n2), e.keep _ _ n1 e2⟩
/-- the same data under other sets of addresses -/
structure Sub (J : Jn) (H : Hp) (J' : Jn) (H' : Hp) : Prop where
  l : ∀ a o, a ∉ J.l → a ∉ J.z → H a = some o → a ∉ J'.l ∧ a ∉ J'.z ∧ H' a = some o
  get : ∀ (i : Nat) a, J.l[i]? = some a → J'.l[i]? = some a
mutual
theorem RD.sub (e : Sub J H J' H') : ∀ {d : D} {v : V}, RD K J H d v → RD K J' H' d v
  | _, _, .non => .non
  | _, _, .bl b => .bl b
  | _, _, .int i => .int i
  | _, _, .str x => .str x
  | _, _, .tup n m q z r => .tup (e.l _ _ n m q).1 (e.l _ _ n m q).2.1 (e.l _ _ n m q).2.2 z (RDs.sub e r)
  | _, _, .ktup k z r => .ktup k z (RDs.sub e r)
  | _, _, .lst n m q z r => .lst (e.l _ _ n m q).1 (e.l _ _ n m q).2.1 (e.l _ _ n m q).2.2 z (RDs.sub e r)
  | _, _, .ref q => .ref (e.get _ _ q)
  | _, _, .fz n m q z r => .fz (e.l _ _ n m q).1 (e.l _ _ n m q).2.1 (e.l _ _ n m q).2.2 z (RDs.sub e r)
  | _, _, .kfz k z r => .kfz k z (RDs.sub e r)
  | _, _, .ft n m q c d z r => .ft (e.l _ _ n m q).1 (e.l _ _ n m q).2.1 (e.l _ _ n m q).2.2 c d z (RDs.sub e r)
  | _, _, .exc n m q => .exc (e.l _ _ n m q).1 (e.l _ _ n m q).2.1 (e.l _ _ n m q).2.2
  | _, _, .exf n m q n2 m2 q2 r => .exf (e.l _ _ n m q).1 (e.l _ _ n m q).2.1 (e.l _ _ n m q).2.2 (e.l _ _ n2 m2 q2).1 (e.l _ _ n2 m2 q2).2.1 (e.l _ _ n2 m2 q2).2.2 (RD.sub e r)
theorem RDs.sub (e : Sub J H J' H') : ∀ {ds : List D} {vs : List V}, RDs K J H ds vs → RDs K J' H' ds vs
  | _, _, .nil => .nil
  | _, _, .cons r t => .cons (RD.sub e r) (RDs.sub e t)
end
theorem RO.sub (e : Sub J H J' H') {o : O} {u : HO} (r : RO K J H o u) : RO K J' H' o u := by
  cases r with
  | lst z r => exact .lst z (r.sub e)
  | dct z r => exact .dct z (Paired.mapP r fun p q x => ⟨x.1, x.2.sub e⟩)
  | tb t r => exact .tb t fun pos cv hc => let ⟨c, e1, n1, n2, e2⟩ := r pos cv hc; ⟨c, e1, e.l _ _ n1 n2 e2⟩
theorem RH.at (r : RH K J h H) {i : Nat} {a : Addr} (q : J.l[i]? = some a) : ∃ o u, h[i]? = some o ∧ H a = some u ∧ RO K J H o u := by
  have hl : i < h.length := by rw [← r.len]; exact (List.getElem?_eq_some_iff.mp q).1
  obtain ⟨a', u, h1, h2, h3⟩ := r.obj i h[i] (List.getElem?_eq_getElem hl)
  rw [q] at h1; cases h1
  exact ⟨_, u, List.getElem?_eq_getElem hl, h2, h3⟩
theorem RH.inl (r : RH K J h H) {a : Addr} (hm : a ∈ J.l) : ∃ u, H a = some u := by
  obtain ⟨i, hi⟩ := List.mem_iff_getElem?.mp hm
  obtain ⟨o, u, _, h2, _⟩ := r.at hi
  exact ⟨u, h2⟩
theorem RH.notin (r : RH K J h H) {a : Addr} (q : H a = none) : a ∉ J.l := fun hm => by
  obtain ⟨u, h2⟩ := r.inl hm
  rw [q] at h2; cases h2
theorem RH.notz (r : RH K J h H) {a : Addr} (q : H a = none) : a ∉ J.z := fun hm => r.zed a hm q
theorem Ext.trans (r : RH K J h H) (r1 : RH K J' h' H') (e : Ext J H J' H') (e2 : Ext J' H' J2 H2) : Ext J H J2 H2 := by
  obtain ⟨m, hm, f⟩ := e.pre
  obtain ⟨m2, hm2, f2⟩ := e2.pre
  refine ⟨e2.z.trans e.z, ⟨m ++ m2, by rw [hm2, hm, List.append_assoc], fun a ha => ?_⟩, fun a o n q => e2.keep a o (e.notin n q) (e.keep a o n q)⟩
  rcases List.mem_append.mp ha with z | z
  · exact f a z
  · cases q : H a with
    | none => rfl
    | some u =>
      exfalso
      by_cases n : a ∈ J.l
      · obtain ⟨u', h2⟩ := r1.inl (a := a) (by rw [hm]; exact List.mem_append_left _ n)
        rw [f2 a z] at h2; cases h2
      · have := e.keep a u n q
        rw [f2 a z] at this; cases this
/-- a new thing that no object holds -/
theorem Ext.laid {p : Addr} {o : HO} (n : H p = none) : Ext J H J (upd H p o) :=
  ⟨rfl, ⟨[], by simp, by simp⟩, fun a u _ q => by rw [upd_ne (ne_of_none q n)]; exact q⟩
theorem RH.laid {p : Addr} {o : HO} (r : RH K J h H) (n : H p = none) : RH K J h (upd H p o) :=
  ⟨r.nd, r.len, fun i ob e => by
    obtain ⟨a, u, h1, h2, h3⟩ := r.obj i ob e
    exact ⟨a, u, h1, by rw [upd_ne (ne_of_none h2 n)]; exact h2, h3.ext (Ext.laid n)⟩, r.apart, fun a ha => by
    by_cases z : a = p
    · subst z; rw [upd_same]; simp
    · rw [upd_ne z]; exact r.zed a ha, r.tbs⟩
/-- a new thing, hidden -/
abbrev Jn.hide (J : Jn) (p : Addr) : Jn := ⟨J.l, p :: J.z⟩
abbrev Jn.own (J : Jn) (p : Addr) : Jn := ⟨J.l ++ [p], J.z⟩
theorem Sub.hide {p : Addr} (n : H p = none) : Sub J H (J.hide p) H :=
  ⟨fun a o x y q => ⟨x, fun hm => (List.mem_cons.mp hm).elim (fun z => by subst z; rw [n] at q; cases q) y, q⟩, fun _ _ q => q⟩
theorem RH.hide {p : Addr} {o : HO} (r : RH K J h H) (n : H p = none) : RH K (J.hide p) h (upd H p o) := by
  have r2 := r.laid (o := o) n
  refine ⟨r.nd, r.len, fun i ob e => ?_, fun a ha => ?_, fun a ha => ?_, r.tbs⟩
  · obtain ⟨a, u, h1, h2, h3⟩ := r.obj i ob e
    exact ⟨a, u, h1, by rw [upd_ne (ne_of_none h2 n)]; exact h2, (h3.sub (Sub.hide n)).ext (Ext.laid n)⟩
  · rcases List.mem_cons.mp ha with z | z
    · subst z; exact r.notin n
    · exact r.apart a z
  · rcases List.mem_cons.mp ha with z | z
    · subst z; rw [upd_same]; simp
    · exact r2.zed a z
/-- a hidden thing is shown -/
theorem Sub.show_ {p : Addr} : Sub (J.hide p) H J H := ⟨fun a o x y q => ⟨x, fun hm => y (List.mem_cons_of_mem _ hm), q⟩, fun _ _ q => q⟩
theorem RH.show_ {p : Addr} (r : RH K (J.hide p) h H) : RH K J h H :=
  ⟨r.nd, r.len, fun i ob e => let ⟨a, u, h1, h2, h3⟩ := r.obj i ob e; ⟨a, u, h1, h2, h3.sub Sub.show_⟩, fun a ha => r.apart a (List.mem_cons_of_mem _ ha), fun a ha => r.zed a (List.mem_cons_of_mem _ ha), r.tbs⟩
/-- .. becomes an object -/
theorem Sub.own {p : Addr} : Sub (J.hide p) H (J.own p) H :=
  ⟨fun a o x y q => ⟨fun hm => (List.mem_append.mp hm).elim x fun z => y (by simp at z; subst z; exact List.mem_cons_self), fun hm => y (List.mem_cons_of_mem _ hm), q⟩,
   fun i a q => by show (J.l ++ [p])[i]? = _; rw [List.getElem?_append_left (List.getElem?_eq_some_iff.mp q).1]; exact q⟩
theorem RH.own {p : Addr} {o : O} {u : HO} (r : RH K (J.hide p) h H) (np : p ∉ J.z) (q : H p = some u) (ro : RO K (J.hide p) H o u) (no : ∀ (P : Nat) (q : Str), o ≠ .tb P q := by intro _ _ e; cases e) : RH K (J.own p) (h ++ [o]) H := by
  have n : p ∉ J.l := r.apart p List.mem_cons_self
  refine ⟨?_, by show (J.l ++ [p]).length = _; rw [List.length_append, List.length_append, r.len]; rfl, fun i ob e => ?_, fun a ha hm => ?_, fun a ha => r.zed a (List.mem_cons_of_mem _ ha), fun i P q e => ?_⟩
  · show (J.l ++ [p]).Nodup
    exact List.nodup_append.mpr ⟨r.nd, by simp, fun a ha b hb => by simp at hb; rw [hb]; rintro rfl; exact n ha⟩
  · have hll : J.l.length = h.length := r.len
    by_cases hi : i < h.length
    · rw [List.getElem?_append_left hi] at e
      obtain ⟨a, w, h1, h2, h3⟩ := r.obj i ob e
      have h1 : J.l[i]? = some a := h1
      exact ⟨a, w, by show (J.l ++ [p])[i]? = _; rw [List.getElem?_append_left (by omega)]; exact h1, h2, h3.sub Sub.own⟩
    · have hi2 : i = h.length := by
        have := (List.getElem?_eq_some_iff.mp e).1
        simp at this; omega
      subst hi2
      rw [List.getElem?_append_right (Nat.le_refl _)] at e
      simp at e; subst e
      exact ⟨p, u, by show (J.l ++ [p])[_]? = _; rw [← hll, List.getElem?_append_right (Nat.le_refl _)]; simp, q, ro.sub Sub.own⟩
  · rcases List.mem_append.mp hm with z | z
    · exact r.apart a (List.mem_cons_of_mem _ ha) z
    · simp at z; subst z; exact np ha
  · have hll : J.l.length = h.length := r.len
    by_cases hi : i < h.length
    · rw [List.getElem?_append_left hi] at e
      have h1 : J.l[i]? = some P := r.tbs i P q e
      show (J.l ++ [p])[i]? = _
      rw [List.getElem?_append_left (by omega)]
      exact h1
    · rw [List.getElem?_append_right (by omega)] at e
      cases hj : i - h.length with
      | zero => rw [hj] at e; exact absurd (Option.some.inj e) (no P q)
      | succ n => rw [hj] at e; simp at e
theorem Ext.own {p : Addr} (n : H p = none) (e : Ext J H J' H') : Ext J H (J'.own p) H' := by
  obtain ⟨m, hm, f⟩ := e.pre
  refine ⟨e.z, ⟨m ++ [p], by show J'.l ++ [p] = _; rw [hm, List.append_assoc], fun a ha => ?_⟩, e.keep⟩
  rcases List.mem_append.mp ha with z | z
  · exact f a z
  · simp at z; rw [z]; exact n
/-- a hidden thing is written -/
theorem Sub.writeZ {p : Addr} {u : HO} (hp : p ∈ J.z) : Sub J H J (upd H p u) :=
  ⟨fun a o x y q => ⟨x, y, by rw [upd_ne (show a ≠ p by rintro rfl; exact y hp)]; exact q⟩, fun _ _ q => q⟩
theorem RH.writeZ {p : Addr} {u : HO} (r : RH K J h H) (hp : p ∈ J.z) : RH K J h (upd H p u) :=
  ⟨r.nd, r.len, fun i ob e => by
    obtain ⟨a, w, h1, h2, h3⟩ := r.obj i ob e
    refine ⟨a, w, h1, ?_, h3.sub (Sub.writeZ hp)⟩
    rw [upd_ne]; exact h2
    rintro rfl; exact r.apart _ hp (List.mem_of_getElem? h1), r.apart, fun a ha => by
    by_cases z : a = p
    · subst z; rw [upd_same]; simp
    · rw [upd_ne z]; exact r.zed a ha, r.tbs⟩
/-- an object written -/
theorem Ext.write {i : Nat} {a : Addr} {u : HO} (q : J.l[i]? = some a) : Ext J H J (upd H a u) :=
  ⟨rfl, ⟨[], by simp, by simp⟩, fun b o n e => by rw [upd_ne]; exact e; rintro rfl; exact n (List.mem_of_getElem? q)⟩
theorem RH.write {i : Nat} {a : Addr} {o : O} {u : HO} (r : RH K J h H) (q : J.l[i]? = some a) (ro : RO K J (upd H a u) o u) (no : ∀ (P : Nat) (q : Str), o ≠ .tb P q := by intro _ _ e; cases e) : RH K J (h.set i o) (upd H a u) := by
  refine ⟨r.nd, by simp [r.len], fun j ob e => ?_, r.apart, fun b hb => ?_, fun j P q2 e => ?_⟩
  · by_cases hj : i = j
    · subst hj
      have hl : i < h.length := by rw [← r.len]; exact (List.getElem?_eq_some_iff.mp q).1
      rw [List.getElem?_set_self hl] at e; cases e
      exact ⟨a, u, q, upd_same, ro⟩
    · rw [List.getElem?_set_ne hj] at e
      obtain ⟨b, w, h1, h2, h3⟩ := r.obj j ob e
      have nb : b ≠ a := by
        rintro rfl
        obtain ⟨l1, e1⟩ := List.getElem?_eq_some_iff.mp q
        obtain ⟨l2, e2⟩ := List.getElem?_eq_some_iff.mp h1
        exact hj ((List.getElem_inj r.nd).mp (e1.trans e2.symm))
      exact ⟨b, w, h1, by rw [upd_ne nb]; exact h2, h3.ext (Ext.write q)⟩
  · rw [upd_ne]; exact r.zed b hb
    rintro rfl; exact r.apart _ hb (List.mem_of_getElem? q)
  · by_cases hj : i = j
    · subst hj
      have hl : i < h.length := by rw [← r.len]; exact (List.getElem?_eq_some_iff.mp q).1
      rw [List.getElem?_set_self hl] at e
      exact absurd (Option.some.inj e) (no P _)
    · rw [List.getElem?_set_ne hj] at e
      exact r.tbs j P _ e

/-! ### the names -/
structure RE (K : PySem.W.Frag) (J : Jn) (H : Hp) (ρ : Env) (σ : L2.St) : Prop where
  len : ρ.length = σ.length
  get : ∀ (i : Nat) (d : D), ρ[i]? = some (some d) → ∃ v, σ[i]? = some (some v) ∧ RD K J H d v
variable {ρ : Env} {σ : L2.St}
theorem RE.ext (r : RE K J H ρ σ) (e : Ext J H J' H') : RE K J' H' ρ σ := ⟨r.len, fun i d q => let ⟨v, a, b⟩ := r.get i d q; ⟨v, a, b.ext e⟩⟩
theorem RE.set (r : RE K J H ρ σ) (i : Nat) {d : D} {v : V} (x : RD K J H d v) : RE K J H (ρ.set i (some d)) (σ.set i (some v)) := by
  refine ⟨by simp [r.len], fun j e q => ?_⟩
  by_cases hj : i = j
  · subst hj
    have hl : i < ρ.length := by
      have := (List.getElem?_eq_some_iff.mp q).1
      simpa using this
    rw [List.getElem?_set_self hl] at q
    cases q
    exact ⟨v, by rw [List.getElem?_set_self (by rw [← r.len]; exact hl)], x⟩
  · rw [List.getElem?_set_ne hj] at q
    obtain ⟨w, a, b⟩ := r.get j e q
    exact ⟨w, by rw [List.getElem?_set_ne hj]; exact a, b⟩
theorem RE.drop (r : RE K J H ρ σ) (i : Nat) : RE K J H (ρ.set i none) (σ.set i none) := by
  refine ⟨by simp [r.len], fun j e q => ?_⟩
  by_cases hj : i = j
  · subst hj
    by_cases hl : i < ρ.length
    · rw [List.getElem?_set_self hl] at q; cases q
    · rw [List.getElem?_eq_none (by simpa using hl)] at q; cases q
  · rw [List.getElem?_set_ne hj] at q
    obtain ⟨w, a, b⟩ := r.get j e q
    exact ⟨w, by rw [List.getElem?_set_ne hj]; exact a, b⟩
theorem RE.lose (r : RE K J H ρ σ) (i : Nat) : RE K J H (ρ.set i none) σ := by
  refine ⟨by simp [r.len], fun j e q => ?_⟩
  by_cases hj : i = j
  · subst hj
    by_cases hl : i < ρ.length
    · rw [List.getElem?_set_self hl] at q; cases q
    · rw [List.getElem?_eq_none (by simpa using hl)] at q; cases q
  · rw [List.getElem?_set_ne hj] at q
    exact r.get j e q
end

/-! ### what is wanted behind a piece -/
abbrev RelA (α β : Type) := Jn → Hp → α → β → Prop
def Post (K : PySem.W.Frag) {α β : Type} (J : Jn) (H : Hp) (Rl : RelA α β) (r : R α) (Q : β → Hp → Prop) : Prop := match r with
  | .ok a h' => ∀ J' H' b, Ext J H J' H' → RH K J' h' H' → Rl J' H' a b → Q b H'
  | _ => False
/-- an exception, as it is told -/
def RXd (K : PySem.W.Frag) (J : Jn) (H : Hp) (x : Xc) (d : Option Addr) : Prop := match x.fld with
  | none => d = none
  | some p => ∃ b v, d = some b ∧ b ∉ J.l ∧ b ∉ J.z ∧ H b = some (.xd [(p.1, v)]) ∧ RD K J H p.2 v
def RX (K : PySem.W.Frag) (mg : Str → Option Value) (J : Jn) (H : Hp) (x : Xc) (cls : Value) (d : Option Addr) : Prop := (∃ C, cls = .ref C ∧ mg x.cls = some (.ref C)) ∧ RXd K J H x d
/-- behind a def, that may let one out -/
def PostX (K : PySem.W.Frag) (mg : Str → Option Value) (E : XK) {α β : Type} (J : Jn) (H : Hp) (Rl : RelA α β) (r : R α) (Q : β → Hp → Prop) : Prop := match r with
  | .ok a h' => ∀ J' H' b, Ext J H J' H' → RH K J' h' H' → Rl J' H' a b → Q b H'
  | .err x h' => ∀ J' H' cls d, Ext J H J' H' → RH K J' h' H' → RX K mg J' H' x cls d → E cls d H'
  | .bad => False
theorem Post.x {K : PySem.W.Frag} {mg : Str → Option Value} {E : XK} {α β : Type} {J : Jn} {H : Hp} {Rl : RelA α β} {r : R α} {Q : β → Hp → Prop} (p : Post K J H Rl r Q) : PostX K mg E J H Rl r Q := by
  cases r with
  | ok a h => exact p
  | err x h => exact False.elim p
  | bad => exact p
theorem PostX.ext {K : PySem.W.Frag} {mg : Str → Option Value} {E : XK} {α β : Type} {J J' : Jn} {H H' : Hp} {h h' : Hh} {Rl : RelA α β} {r : R α} {Q : β → Hp → Prop} (rh : RH K J h H) (rh' : RH K J' h' H') (e : Ext J H J' H') (p : PostX K mg E J H Rl r Q) : PostX K mg E J' H' Rl r Q := by
  cases r with
  | ok a h2 => exact fun J2 H2 b e2 rh2 rl => p J2 H2 b (e.trans rh rh' e2) rh2 rl
  | err x h2 => exact fun J2 H2 c d e2 rh2 rx => p J2 H2 c d (e.trans rh rh' e2) rh2 rx
  | bad => exact p
section
variable {K : PySem.W.Frag} {J J' : Jn} {H H' : Hp} {h h' : Hh} {ρ : Env} {σ : L2.St} {α β γ δ : Type}
theorem Post.mono {Rl : RelA α β} {r : R α} {Q Q' : β → Hp → Prop} (p : Post K J H Rl r Q) (f : ∀ b H', Q b H' → Q' b H') : Post K J H Rl r Q' := by
  cases r with
  | ok a h' => exact fun J' H' b e rh rl => f _ _ (p J' H' b e rh rl)
  | bad => exact p
  | err _ _ => exact p
theorem Post.ext {Rl : RelA α β} {r : R α} {Q : β → Hp → Prop} (rh : RH K J h H) (rh' : RH K J' h' H') (e : Ext J H J' H') (p : Post K J H Rl r Q) : Post K J' H' Rl r Q := by
  cases r with
  | ok a h2 => exact fun J2 H2 b e2 rh2 rl => p J2 H2 b (e.trans rh rh' e2) rh2 rl
  | bad => exact p
  | err _ _ => exact p
/-- a reading by an evaluator's function -/
def tG (K : PySem.W.Frag) (Rl : RelA α β) (f : Env → Hh → R α) : L2.St → Hp → (β → Hp → Prop) → Prop := fun σ H Q => ∃ ρ h J, RE K J H ρ σ ∧ RH K J h H ∧ Post K J H Rl (f ρ h) Q
abbrev rD (K : PySem.W.Frag) : RelA D V := RD K
abbrev rDs (K : PySem.W.Frag) : RelA (List D) (List V) := RDs K
abbrev rB : RelA Bool Bool := fun _ _ a b => a = b
/-- step by step -/
theorem Post.step {R1 : RelA α β} {R2 : RelA γ δ} {f : Env → Hh → R α} {g : α → Hh → R γ} {Q : δ → Hp → Prop} (re : RE K J H ρ σ) (rh : RH K J h H) (p : Post K J H R2 ((f ρ h).bind g) Q) :
    tG K R1 f σ H (fun b H1 => ∃ J1 h1 a, Ext J H J1 H1 ∧ RE K J1 H1 ρ σ ∧ RH K J1 h1 H1 ∧ R1 J1 H1 a b ∧ Post K J1 H1 R2 (g a h1) Q) := by
  refine ⟨ρ, h, J, re, rh, ?_⟩
  cases q : f ρ h with
  | ok a h1 =>
    rw [q] at p
    exact fun J1 H1 b e rh1 rl => ⟨J1, h1, a, e, re.ext e, rh1, rl, Post.ext rh rh1 e p⟩
  | bad => rw [q] at p; exact p
  | err _ _ => rw [q] at p; exact p
theorem Post.opt {Rl : RelA α β} {o : Option α} {Q : β → Hp → Prop} (rh : RH K J h H) (p : Post K J H Rl (R.opt o h) Q) : ∃ a, o = some a ∧ ∀ b, Rl J H a b → Q b H := by
  cases o with
  | none => exact False.elim p
  | some a => exact ⟨a, rfl, fun b rl => p J H b Ext.refl rh rl⟩
/-- .. with a further thing laid -/
theorem Post.optX {Rl : RelA α β} {o : Option α} {Q : β → Hp → Prop} (p : Post K J H Rl (R.opt o h) Q) : ∃ a, o = some a ∧ ∀ J' H' b, Ext J H J' H' → RH K J' h H' → Rl J' H' a b → Q b H' := by
  cases o with
  | none => exact False.elim p
  | some a => exact ⟨a, rfl, p⟩
theorem tG.mono {Rl : RelA α β} {f : Env → Hh → R α} {Q Q' : β → Hp → Prop} (p : tG K Rl f σ H Q) (m : ∀ b H', Q b H' → Q' b H') : tG K Rl f σ H Q' :=
  let ⟨ρ, h, J, re, rh, q⟩ := p; ⟨ρ, h, J, re, rh, q.mono m⟩
end
theorem _root_.L2.PE.imp {X : Cx} {e : Expr} {t t' : TE} (h : PE X e t) (i : ∀ σ H Q, t' σ H Q → t σ H Q) : PE X e t' := ⟨fun p s σ H Q I q => h.run p s σ H Q I (i σ H Q q)⟩
theorem _root_.L2.PT.imp {X : Cx} {e : Expr} {t t' : TT} (h : PT X e t) (i : ∀ σ H Q, t' σ H Q → t σ H Q) : PT X e t' := ⟨fun p s σ H Q I q => h.run p s σ H Q I (i σ H Q q)⟩
theorem _root_.L2.PW.imp {X : Cx} {e : Expr} {t t' : TT} (h : PW X e t) (i : ∀ σ H Q, t' σ H Q → t σ H Q) : PW X e t' := ⟨fun w p s σ H Q I q => h.run w p s σ H Q I (i σ H Q q)⟩
theorem _root_.L2.PA.imp {X : Cx} {es : List Expr} {t t' : TA} (h : PA X es t) (i : ∀ σ H Q, t' σ H Q → t σ H Q) : PA X es t' := ⟨fun w p s σ H Q I q => h.run w p s σ H Q I (i σ H Q q)⟩
theorem _root_.L2.PI.imp {X : Cx} {tg e : Expr} {t t' : TI} (h : PI X tg e t) (i : ∀ σ H Q, t' σ H Q → t σ H Q) : PI X tg e t' := ⟨fun p s σ H Q I q => h.run p s σ H Q I (i σ H Q q)⟩
theorem _root_.L2.PG.imp {X : Cx} {e : Expr} {t t' : TG} (h : PG X e t) (i : ∀ v σ H Q, t' v σ H Q → t v σ H Q) : PG X e t' := ⟨fun p s σ H v u Q I r q => h.run p s σ H v u Q I r (i v σ H Q q)⟩
theorem _root_.L2.PS.imp {X : Cx} {e : Stmt} {t t' : TS} (h : PS X e t) (i : ∀ D σ H, t' D σ H → t D σ H) : PS X e t' := ⟨fun p s σ H D I q => h.run p s σ H D I (i D σ H q)⟩
theorem _root_.L2.PSs.imp {X : Cx} {e : List Stmt} {t t' : TS} (h : PSs X e t) (i : ∀ D σ H, t' D σ H → t D σ H) : PSs X e t' := ⟨fun p s σ H D I q => h.run p s σ H D I (i D σ H q)⟩
end PV
end

section
set_option maxRecDepth 100000
set_option maxHeartbeats 2000001
/-! PvGk: such a class called by name: C(f=v). -/
namespace PySem
namespace GAK
section
variable {w : World} {prog : Program} {A : Around} {E : Value → Shared → Prop} {R : Result → Shared → Prop} {h : Heap} {g : Array GenState} {d : Drawn} {t : Nat} {os : OsState}
variable {nm q : Str} {C N : Addr} {bs bm bmB : List Value} {hdct : Bool} {sn : List Str} {sub : List Value} {ab : Bool} {col : Option Bool} {dd : Option Addr} {k0 k1 k2 k3 k5 : Option Value} {B newId initId : String} {kws : List (Str × Value)}
theorem new_checkK {M : Model} (F : ExcBaseFacts B newId initId bmB) (hT : ∀ X : String, bm.contains (.type X) = bmB.contains (.type X)) {Q : Unit → Shared → Prop} (hC : h.get? C = some (excClassObj nm q C N bs bm hdct sn sub ab col dd k0 k1 k2 k3 k5 newId)) (hq : Q () ⟨h, g, d, t, os⟩) : wpAny M A (checkBuiltinCall newId ⟨[.ref C], kws⟩) Q E ⟨h, g, d, t, os⟩ := by
  have has : (Value.ref C :: bm).contains (.type B) = true := by rw [List.contains_cons, hT, F.hasB, Bool.or_true]
  have star := F.noStar
  (simp only [checkBuiltinCall, F.newKind, F.newSplit, F.newRow])
  (repeat (first | refine wpAny_loadPart_at hC ?_ | (refine wpAny_isSubtype_exc hC ?_; rw [has]) | refine wpAny_staticBase_exc hC ?_ | refine wpAny_madeBy_exc hC ?_ | simp only [bne_self_eq_false, Bool.false_eq_true, if_false] | wp_step))
  exact hq
theorem new_kw (F : ExcBaseFacts B newId initId bmB) (hT : ∀ X : String, bm.contains (.type X) = bmB.contains (.type X)) (hC : h.get? C = some (excClassObj nm q C N bs bm hdct sn sub ab col dd k0 k1 k2 k3 k5 newId))
    (hq : R (.ok (.ret (.ref (h.objs.size + 1)))) ⟨(h.push (W.kdv_tup [])).push (HandSPX.excO C h.objs.size), g, d, t, os⟩) :
    codeAny (model prog w) A (.builtin newId ⟨[.ref C], kws⟩) R ⟨h, g, d, t, os⟩ := by
  have ends := F.ends
  have has : (Value.ref C :: bm).contains (.type B) = true := by rw [List.contains_cons, hT, F.hasB, Bool.or_true]
  have noA : (Value.ref C :: bm).contains (.type "AttributeError") = false := by rw [List.contains_cons, hT, F.noAttr]; rfl
  have noN : (Value.ref C :: bm).contains (.type "NameError") = false := by rw [List.contains_cons, hT, F.noName]; rfl
  (refine codeAny_builtinAt F.entry ?_)
  (unfold Builtin.«BaseException.__new__»)
  refine wpAt_bind ?_
  (show wpAt _ _ _ (stack >>= _) _ _ _)
  (refine wpAt_bind (wpAt_stack fun p below => wpAt_of_wpAny ?_))
  wp_walk
  refine wpAt_of_wpAny ?_
  rw [F.owner]
  (repeat (first | with_reducible refine wpAny_madeHere_exc F.canon hC ?_ | with_reducible refine wpAny_loadPart_at hC ?_ | (with_reducible refine wpAny_isSubtype_exc hC ?_; first | rw [has] | rw [noA] | rw [noN]) | wp_step))
  show R _ _
  rw [Heap.size_push]
  exact hq
theorem type_kw (F : ExcBaseFacts B newId initId bmB) (hT : ∀ X : String, bm.contains (.type X) = bmB.contains (.type X)) {fI : Addr} {Q : Fin → Shared → Prop} (hC : h.get? C = some (excClassObj nm q C N bs bm hdct sn sub ab col dd k0 k1 k2 k3 k5 newId))
    (hi : W.Looks (model prog w) h (typeLookup (.ref C) "__init__") (some (.ref fI))) (hb : ∀ self, W.Looks (model prog w) h (bindSpecial (.ref fI) self) (.ref fI, [self]))
    (hq : codeAny (model prog w) A (.call (.ref fI) ⟨[.ref (h.objs.size + 1)], kws⟩) (fun r s' => match r with | .ok (.ret v) => v = .none ∧ Q (.done (.ret (.ref (h.objs.size + 1)))) s' | .ok _ => False | .error e => E e s')
      ⟨(h.push (W.kdv_tup [])).push (HandSPX.excO C h.objs.size), g, d, t, os⟩) :
    wpAny (model prog w) A (Builtin.«type.__call__» ⟨[.ref C], kws⟩) Q E ⟨h, g, d, t, os⟩ := by
  (repeat (first | with_reducible refine wpAny_loadPart_at hC ?_ | with_reducible refine wpAny_madeBy_exc hC ?_ | wp_step))
  refine codeAny_call_builtin_code (Code.quiet_builtin _ F.quiet) (new_checkK F hT hC ?_)
  refine new_kw F hT hC ?_
  show wpAny _ _ _ _ _ _
  have k : ∀ b o, h.get? b = some o → ((h.push (W.kdv_tup [])).push (HandSPX.excO C h.objs.size)).get? b = some o := fun b o e => Heap.get?_push_of_some _ (Heap.get?_push_of_some _ e)
  have up := k _ _ hC
  have own : ((h.push (W.kdv_tup [])).push (HandSPX.excO C h.objs.size)).get? (h.objs.size + 1) = some (HandSPX.excO C h.objs.size) := by heap_get
  have self : (Value.ref C :: bm).contains (.ref C) = true := by simp
  have i1 := hi.keeps k
  (have b1 := (hb (.ref (h.objs.size + 1))).keeps k)
  unfold isInstance
  (repeat (first | with_reducible refine wpAny_loadPart_at own ?_ | (with_reducible refine wpAny_isSubtype_exc up ?_; rw [self]) | wp_step))
  (show wpAny _ _ (typeLookup (.ref C) _) _ _ _)
  refine i1.at ?_
  (refine wpAny_holding (wpAny_bind (b1.at ?_)))
  (refine wpAny_bind (wpAny_call (codeAny_mono hq fun r s' z => ?_)))
  (rcases r with e | (v | _ | _ | _) <;> first | exact z | exact z.elim | skip)
  obtain ⟨rfl, z⟩ := z
  first
    | (exact (wpAny_pure (wpAny_pure z)))
    | (wp_walk; exact z)
theorem check_type_kw {M : Model} {Q : Unit → Shared → Prop} (hC : h.get? C = some (excClassObj nm q C N bs bm hdct sn sub ab col dd k0 k1 k2 k3 k5 newId)) (hq : Q () ⟨h, g, d, t, os⟩) :
    wpAny M A (checkBuiltinCall "type.__call__" ⟨[.ref C], kws⟩) Q E ⟨h, g, d, t, os⟩ := by
  have f3 := tc_sub
  (have hT : (⟨h, g, d, t, os⟩ : Shared).TypeIs (.ref C) "type" := ⟨_, hC, rfl⟩)
  (simp only [checkBuiltinCall, tc_kind, tc_split])
  (repeat (any_goals (first | assumption | with_reducible refine wpAny_loadPart_at hC ?_ | with_reducible refine wpAny_onRaise ?_ | with_reducible refine wpAny_map ?_ | wp_step)))
theorem call_kw (F : ExcBaseFacts B newId initId bmB) (hT : ∀ X : String, bm.contains (.type X) = bmB.contains (.type X)) {fI : Addr} (hC : h.get? C = some (excClassObj nm q C N bs bm hdct sn sub ab col dd k0 k1 k2 k3 k5 newId))
    (hi : W.Looks (model prog w) h (typeLookup (.ref C) "__init__") (some (.ref fI))) (hb : ∀ self, W.Looks (model prog w) h (bindSpecial (.ref fI) self) (.ref fI, [self]))
    (hq : codeAny (model prog w) (A.under (.builtin "type.__call__" ⟨[.ref C], kws⟩)) (.call (.ref fI) ⟨[.ref (h.objs.size + 1)], kws⟩) (W.InitBack (h.objs.size + 1) R)
      ⟨(h.push (W.kdv_tup [])).push (HandSPX.excO C h.objs.size), g, d, t, os⟩) :
    codeAny (model prog w) A (.call (.ref C) ⟨[], kws⟩) R ⟨h, g, d, t, os⟩ := by
  have f1 := tc_lookup
  have f2 := tc_bind (.ref C)
  (have hTy : (⟨h, g, d, t, os⟩ : Shared).TypeIs (.ref C) "type" := ⟨_, hC, rfl⟩)
  refine codeAny_of_tree ?_
  (show wpAny _ _ (callAny (.ref C) _) _ _ _)
  (repeat (any_goals (first | assumption | with_reducible refine wpAny_loadPart_at hC ?_ | wp_step)))
  refine ⟨rfl, ?_⟩
  refine codeAny_call_builtin_at (Code.quiet_builtin _ (by decide +kernel)) entry_typeCall (check_type_kw hC (type_kw F hT hC hi hb ?_))
  (refine codeAny_mono hq fun r s' z => ?_)
  (rcases r with e | (v | _ | _ | _) <;> exact z)
end
end GAK
end PySem
end

section
set_option maxRecDepth 100000
set_option maxHeartbeats 2000001
/-! PvGa: an own exception class whose __init__(self, f) says super().__init__("text") and self.f = f: its call as a whole. -/
namespace GA
open PySem PySem.Spec PySem.W PySem.Calls PyProof.Rows

/-- the text of such an __init__ -/
abbrev gBody (text f : Str) (k : Nat) (p0 p1 p2 p3 p4 p5 p6 p7 p8 p9 : Pos) : List Stmt :=
  [.Expr (.Call (.Attribute (.Call (.Name "super" p0) [] [] p1) "__init__" p2) [.Constant (.str text) k p3] [] p4) p5, .Assign [.Attribute (.Name "self" p6) f p7] (.Name f p8) p9]

section
variable {w : World} {prog : Program} {A : Around} {E : Value → Shared → Prop} {h : Heap} {g : Array GenState} {d : Drawn} {t : Nat} {os : OsState}
variable {q nm : Str} {C N : Addr} {bm bs : List Value} {hdct : Bool} {sn : List Str} {sub : List Value} {ab : Bool} {col : Option Bool} {dd : Option Addr} {k0 k1 k2 k3 k5 : Option Value}
/-- ValueError.__init__, bound to e, called -/
theorem call_mw {u e t0 : Addr} {rest : List Value} {Q : Value → Shared → Prop} (hC : h.get? C = some (excClassObj nm q C N bs bm hdct sn sub ab col dd k0 k1 k2 k3 k5 "ValueError.__new__")) (he : h.get? e = some (PySem.HandSPX.excO C t0))
    (hu : h.get? u = some (kxs_mw "ValueError.__init__" e)) (hz : rest.length ≤ sizeLine) (hq : ∀ h', (∀ b o, b ≠ e → h.get? b = some o → h'.get? b = some o) → h'.get? e = some (PySem.HandSPX.excO C h.objs.size) → Q .none ⟨h', g, d, t, os⟩) :
    (wpAny (model prog w) A (call (.ref u) rest) Q E ⟨h, g, d, t, os⟩) := by
  (refine wpAny_call (codeAny_of_tree ?_))
  (show wpAny _ A.in1 (callAny (.ref u) ⟨rest, []⟩) _ _ _)
  simp only [callAny]
  (refine wpAny_bind (wpAny_load hu ?_))
  (simp only [show (Value.type "method-wrapper" == Value.type "method" || Value.type "method-wrapper" == Value.type "builtin_function_or_method" || Value.type "method-wrapper" == Value.type "method-wrapper") = true by decide, if_true])
  (refine KFB.if_so (by decide) ?_)
  refine wpAny_bind (check_bound_init F.excBase_ValueError.toExcCallFacts hC he rfl ?_)
  (refine wpAny_bind (wpAny_pure (wpAny_pure ?_)))
  refine ⟨plainId_quiet F.excBase_ValueError.init.plain _, codeAny_builtin F.excBase_ValueError.initEntry ?_⟩
  exact exc_init_tree (cls := .ref C) (t0 := t0) (dv := none) (c2 := .none) (c3 := .none) (b4 := .bool false) he hz fun h' kp e' _ => hq h' kp e'
end
section
variable {w : World} {prog : Program} {A : Around} {R : Result → Shared → Prop} {K : Frag} {mg mb : Str → Option Value}
variable {C e t0 fI cda cc : Addr} {name qual text f : Str} {k : Nat} {params : Arguments} {scope : Scope} {dV kV doc pm ct ccl cl : Value} {an od cdd cld : Option Addr} {osl ccs csl : Array (Option Value)} {p0 p1 p2 p3 p4 p5 p6 p7 p8 p9 : Pos} {ar : Arg} {vs : Array Value} {file : Str} {tf : Tok} {v : Value} {s : Shared} {pl : Env → Sem Bool} {args : Args}

theorem init_run (kx : K.In s.heap) (room : A.depth < recursionLimit) (T : L2.OexC K C) (hg : s.heap.Ns mainGlobals mg) (hb : s.heap.Ns builtinsNs mb) (hms : mg "super" = none) (hbs : mb "super" = some (.type "super")) (hlim : s.heap.NoLimit)
    (hf : K.lookup fI = some ⟨.type "function", od, .func (ksFn name qual params (gBody text f k p0 p1 p2 p3 p4 p5 p6 p7 p8 p9) scope dV kV doc pm an (.ref cda) ct cc), osl⟩) (hcd : codeIn K (.ref cda) qual = true)
    (hcode : K.lookup cda = some ⟨ccl, cdd, .fields vs, ccs⟩) (hvs : vs[2]? = some (.str file tf)) (hfile : ((prog.main.file : Str) == file) = true) (htop : (prog.main.scope.names.lookup ("super" : Str)).isSome = false)
    (hcell : K.lookup cc = some ⟨cl, cld, .cell (some (.ref C)), csl⟩) (hp : (params.posonlyargs ++ params.args).head? = some ar) (har : ar.arg = "self")
    (hbind : BindsTo s (ksFn name qual params (gBody text f k p0 p1 p2 p3 p4 p5 p6 p7 p8 p9) scope dV kV doc pm an (.ref cda) ct cc) args [("self", .ref e), (f, v)])
    (hks : scope.names.lookup ("super" : Str) = some .globalImplicit) (hkc : scope.names.lookup ("__class__" : Str) = some .free) (hls : scope.names.lookup ("self" : Str) = some .local) (hlf : scope.names.lookup f = some .local)
    (hcells : ∀ x ∈ scope.names, x.2 ≠ .cell) (hco : scope.isCoroutine = false) (hgen : scope.isGenerator = false) (hk : scope.kind = .function) (hfs : f ≠ "self") (hfd : (f == ("__debug__" : Str)) = false)
    (hsup : ks_superIn K C C "__init__" = some (some (.builtin "ValueError.__init__"))) (hsub : subIn K (.ref C) (.type "ValueError") = some true) (hany : nsIn K cStatics "thirdparty.any" = some none)
    (hev : ∀ env : Env, eval (.Call (.Attribute (.Call (.Name "super" p0) [] [] p1) "__init__" p2) [.Constant (.str text) k p3] [] p4) env = (do
      let ov ← attributeBase (.Call (.Name "super" p0) [] [] p1) "__init__" env (eval (.Call (.Name "super" p0) [] [] p1) env)
      standAt p2.atName
      let (f, first) ← holding [ov] (getMethod ov "__init__" (pl env))
      callWith p4 f first (backTo p4 (starEach [.Constant (.str text) k p3] env)) []))
    (hno : findIn K (.ref C) f = some none) (he : s.heap.get? e = some (PySem.HandSPX.excO C t0)) (hKe : K.lookup e = none)
    (hq : ∀ h' tk' dx t1, (∀ b o, b ≠ e → s.heap.get? b = some o → h'.get? b = some o) → s.heap.objs.size ≤ dx → h'.get? e = some { cls := .ref C, dict := some dx, data := .fields #[.ref t1, .none, .none, .none, .bool false, .none] } →
      h'.Ns1 dx (fun y => if y = f then some v else none) → R (.ok (.ret .none)) { s with heap := h', toks := tk' }) :
    codeAny (model prog w) A (.call (.ref fI) args) R s := by
  (obtain ⟨nm, q, N, bs, bm, sn, sub, ab, col, dd, k0, k1, k2, k3, k5, hC, hbm⟩ := T.cls)
  (have hcl : clsIn K C = some { name := nm, bases := bs, mro := .ref C :: bm, ns := N, qualname := q, hasDict := true, slotNames := sn, subclasses := sub, abstract := ab, collection := col, hasDel := false } := by unfold clsIn; rw [hC] <;> rfl)
  refine ks_codeAny_call_defAt (fd := ksFn name qual params (gBody text f k p0 p1 p2 p3 p4 p5 p6 p7 p8 p9) scope dV kV doc pm an (.ref cda) ct cc) (body := gBody text f k p0 p1 p2 p3 p4 p5 p6 p7 p8 p9) (binds := [("self", .ref e), (f, v)])
    room (kx _ _ hf) rfl hlim (codeRec_of kx hcd) rfl hbind hcells (fun x hx => ?_) (fun h₁ hns kp => ?_) hco hgen hk
  · rcases List.mem_cons.mp hx with rfl | hx
    · exact hls
    · rcases List.mem_cons.mp hx with rfl | hx
      · exact hlf
      · cases hx
  obtain ⟨hh, g, d, t, os⟩ := s
  have k1' : ∀ b o, hh.get? b = some o → h₁.get? b = some o := kp
  have X1 : K.In h₁ := kx.keeps k1'
  have he1 := k1' _ _ he
  have I1 : InstAt h₁ e (PySem.HandSPX.excO C t0) C none := ⟨he1, rfl, rfl, trivial⟩
  have hi : interactive (ksEnv qual scope hh.objs.size fI (.ref cda) cc) = false := by unfold interactive; rw [hk]; rfl
  refine ks_wpAt_execs_cons (ks_wpAt_Expr_any (ks_wpAt_MethodCall ?_ (hev _)) (hi := hi))
  have Mg : h₁.Ns mainGlobals mg := hg.keeps k1'
  have Mb : h₁.Ns builtinsNs mb := hb.keeps k1'
  have mroC : mroIn K C (.ref C) = some true := by
    unfold mroIn
    rw [hcl, Option.bind_some, if_neg (show ¬ (List.isEmpty (Value.ref C :: bm) = true) from Bool.false_ne_true)]
    simp
  have sf : (("self" : Str) == f) = false := by
    have : ("self" : Str) ≠ f := fun z => hfs z.symm
    simpa using this
  refine ks_wpAt_super_base (ar := ar) hks hkc (by decide) rfl (X1 _ _ hf) rfl hp rfl (X1 _ _ hcode) rfl hvs hfile htop ?_
  refine ks_loadName_global hk hks (loadGlobal_builtin Mg hms Mb hbs ⟨rfl, ?_⟩)
  refine wpAny_loadName_free hk hkc rfl ⟨_, X1 _ _ hcell, rfl⟩ ?_
  rw [har]
  refine wpAny_loadName_local hk hls hns (v := .ref e) ?_ ?_
  · show List.lookup ("self" : Str) [(f, v), ("self", Value.ref e)] = _
    rw [List.lookup, sf]
    rfl
  refine ks_wpAny_isType_cls (X1 _ _ hC) rfl ⟨rfl, ?_⟩
  refine ks_wpAny_call_super (X1 _ _ hC) rfl I1.at_ I1.cls (fun c e => by cases e) (looks_mroIn X1 mroC) (fun h2 hso kp2 => ?_)
  have X2 : K.In h2 := X1.keeps kp2
  have I2 : InstAt h2 e (PySem.HandSPX.excO C t0) C none := ⟨kp2 _ _ he1, rfl, rfl, trivial⟩
  have hsup2 := hsup
  unfold ks_superIn at hsup2
  rw [hcl] at hsup2
  refine kxs_getMethod kxs_ValueError hso (looks_opaque X2 hany) (l₀ := .ref C :: bm) (fun A Q E s k q => wpAny_bind ((looks_clsIn X2 hcl) A _ E s k (wpAny_pure q))) rfl X2 hsup2 (I2.type.andThen (looks_subIn X2 hsub)) (ks_ne X2 I2 hcl) (by decide) ?_
  refine kxs_callWith (i := "ValueError.__init__") (x := e) rfl (evalArgs_plain ?_)
  show wpAny _ _ (spliced ((false, eval (.Constant (.str text) k p3) (ksEnv qual scope hh.objs.size fI (.ref cda) cc)) :: backTo p4 (starEach [] (ksEnv qual scope hh.objs.size fI (.ref cda) cc)))) _ _ _
  refine spliced_cons (Constant_str (spliced_nil ⟨Heap.get?_push_size _ rfl, ?_⟩))
  have k3' : ∀ b o, h₁.get? b = some o → (h2.push (kxs_mw "ValueError.__init__" e)).get? b = some o := fun b o z => Heap.get?_push_of_some _ (kp2 b o z)
  refine call_mw (k3' _ _ (X1 _ _ hC)) (k3' _ _ he1) (Heap.get?_push_size _ rfl) (by show 1 ≤ sizeLine; rw [sizeLine_eq]; omega) (fun h4 kp4 he4 => ?_)
  have k4' : ∀ b o, b ≠ e → hh.get? b = some o → h4.get? b = some o := fun b o n z => kp4 b o n (k3' b o (k1' b o z))
  have eL : hh.objs.size ≠ e := Nat.ne_of_gt (Heap.lt_size he)
  have eC : ∀ b o, K.lookup b = some o → b ≠ e := fun b o z y => by
    rw [y, hKe] at z
    cases z
  have X4 : K.In h4 := fun b o z => k4' b o (eC b o z) (kx b o z)
  have hns4 : h4.Ns hh.objs.size (fun y => ([("self", Value.ref e), (f, v)] : List (Str × Value)).reverse.lookup y) := by
    obtain ⟨o, es, ep, q1, q2⟩ := hns
    exact ⟨o, es, ep, kp4 _ _ eL (k3' _ _ q1), q2⟩
  refine ks_wpAt_execs_cons (ks_wpAt_Assign_Attr ?_)
  refine wpAt_of_wpAny ?_
  refine wpAny_Name (wpAny_loadName_local (env := ksEnv qual scope hh.objs.size fI (.ref cda) cc) (m := fun y => ([("self", Value.ref e), (f, v)] : List (Str × Value)).reverse.lookup y) (v := v) hk hlf ?_ ?_ ?_) hfd
  · exact hns4
  · show List.lookup f [(f, v), ("self", Value.ref e)] = _
    simp [List.lookup]
  refine wpAny_Name (wpAny_loadName_local (env := ksEnv qual scope hh.objs.size fI (.ref cda) cc) (m := fun y => ([("self", Value.ref e), (f, v)] : List (Str × Value)).reverse.lookup y) (v := .ref e) hk hls ?_ ?_ ?_) (by decide)
  · exact hns4
  · show List.lookup ("self" : Str) [(f, v), ("self", Value.ref e)] = _
    rw [List.lookup, sf]
    rfl
  refine set_plain X4 (ox := PySem.HandSPX.excO C _) (od := none) ⟨he4, rfl, rfl, trivial⟩ T.sa ?_
  refine PySem.HandSPX.exc_osa X4 he4 hcl (show PySem.HandSPX.refsVE (.ref C :: bm) = true from hbm) rfl hno (fun h' tk' dx kd dn dne hx hn => ?_)
  refine wpAt_of_wpAny (wpAny_pure ?_)
  refine hq h' tk' dx _ (fun b o n z => kd b o n (k4' b o n z)) ?_ hx hn
  obtain ⟨o, es, ep, q1, _⟩ := hns4
  exact Nat.le_trans (Nat.le_of_lt (Heap.lt_size q1)) dn
end
/-- what the written part says of such a class -/
structure Gate (prog : Program) (K : Frag) (C : Addr) (f : Str) : Prop where
  T : L2.OexC K C
  rest : ∃ (fI cda cc : Addr) (name qual text : Str) (k : Nat) (params : Arguments) (scope : Scope) (dV kV doc pm ct ccl cl : Value) (an od cdd cld : Option Addr) (osl ccs csl : Array (Option Value)) (p0 p1 p2 p3 p4 p5 p6 p7 p8 p9 : Pos) (ar : Arg) (vs : Array Value) (file : Str) (tf : Tok) (pl : Env → Sem Bool),
    findIn K (.ref C) "__init__" = some (some (.ref fI)) ∧ typeIn K (.ref fI) = some (.type "function") ∧
    K.lookup fI = some ⟨.type "function", od, .func (ksFn name qual params (gBody text f k p0 p1 p2 p3 p4 p5 p6 p7 p8 p9) scope dV kV doc pm an (.ref cda) ct cc), osl⟩ ∧ codeIn K (.ref cda) qual = true ∧
    K.lookup cda = some ⟨ccl, cdd, .fields vs, ccs⟩ ∧ vs[2]? = some (.str file tf) ∧ ((prog.main.file : Str) == file) = true ∧ (prog.main.scope.names.lookup ("super" : Str)).isSome = false ∧
    K.lookup cc = some ⟨cl, cld, .cell (some (.ref C)), csl⟩ ∧ (params.posonlyargs ++ params.args).head? = some ar ∧ ar.arg = "self" ∧
    (∀ (s : Shared) (u v : Value), BindsTo s (ksFn name qual params (gBody text f k p0 p1 p2 p3 p4 p5 p6 p7 p8 p9) scope dV kV doc pm an (.ref cda) ct cc) ⟨[u, v], []⟩ [("self", u), (f, v)] ∧ BindsTo s (ksFn name qual params (gBody text f k p0 p1 p2 p3 p4 p5 p6 p7 p8 p9) scope dV kV doc pm an (.ref cda) ct cc) ⟨[u], [(f, v)]⟩ [("self", u), (f, v)]) ∧
    scope.names.lookup ("super" : Str) = some .globalImplicit ∧ scope.names.lookup ("__class__" : Str) = some .free ∧ scope.names.lookup ("self" : Str) = some .local ∧ scope.names.lookup f = some .local ∧
    (∀ x ∈ scope.names, x.2 ≠ .cell) ∧ scope.isCoroutine = false ∧ scope.isGenerator = false ∧ scope.kind = .function ∧ f ≠ "self" ∧ (f == ("__debug__" : Str)) = false ∧
    ks_superIn K C C "__init__" = some (some (.builtin "ValueError.__init__")) ∧ subIn K (.ref C) (.type "ValueError") = some true ∧ nsIn K cStatics "thirdparty.any" = some none ∧
    findIn K (.ref C) f = some none ∧
    ∀ env : Env, eval (.Call (.Attribute (.Call (.Name "super" p0) [] [] p1) "__init__" p2) [.Constant (.str text) k p3] [] p4) env = (do
      let ov ← attributeBase (.Call (.Name "super" p0) [] [] p1) "__init__" env (eval (.Call (.Name "super" p0) [] [] p1) env)
      standAt p2.atName
      let (f, first) ← holding [ov] (getMethod ov "__init__" (pl env))
      callWith p4 f first (backTo p4 (starEach [.Constant (.str text) k p3] env)) [])
section
variable {w : World} {prog : Program} {A : Around} {E : Value → Shared → Prop} {K : Frag} {mg mb : Str → Option Value} {C : Addr} {f : Str} {v : Value} {hp : Heap} {g : Array GenState} {d : Drawn} {t : Nat} {os : OsState}
/-- C(v) -/
theorem call_gate {Q : Value → Shared → Prop} (G : Gate prog K C f) (kx : K.In hp) (hr : L2.Room 0 A) (hg : hp.Ns mainGlobals mg) (hb : hp.Ns builtinsNs mb) (hms : mg "super" = none) (hbs : mb "super" = some (.type "super")) (hlim : hp.NoLimit)
    (hq : ∀ h' tk' e dx t1, (∀ b o, hp.get? b = some o → h'.get? b = some o) → hp.objs.size ≤ e → hp.objs.size ≤ dx → h'.get? e = some { cls := .ref C, dict := some dx, data := .fields #[.ref t1, .none, .none, .none, .bool false, .none] } →
      h'.Ns1 dx (fun y => if y = f then some v else none) → Q (.ref e) ⟨h', g, d, tk', os⟩) :
    wpAny (model prog w) A (call (.ref C) [v]) Q E ⟨hp, g, d, t, os⟩ := by
  obtain ⟨nm, q, N, bs, bm, sn, sub, ab, col, dd, k0, k1, k2, k3, k5, hC, hbm⟩ := G.T.cls
  obtain ⟨fI, cda, cc, name, qual, text, kk, params, scope, dV, kV, doc, pm, ct, ccl, cl, an, od, cdd, cld, osl, ccs, csl, p0, p1, p2, p3, p4, p5, p6, p7, p8, p9, ar, vs, file, tf, pl,
    a1, a2, a3, a4, a5, a6, a7, a8, a9, b1, b2, b3, b4, b5, b6, b7, b8, b9, c1, c2, c3, c4, c5, c6, c7, c8, c9⟩ := G.rest
  have up : ∀ b o, hp.get? b = some o → ((hp.push (kdv_tup [v])).push (PySem.HandSPX.excO C hp.objs.size)).get? b = some o := fun b o z => Heap.get?_push_of_some _ (Heap.get?_push_of_some _ z)
  have hget : ((hp.push (kdv_tup [v])).push (PySem.HandSPX.excO C hp.objs.size)).get? (hp.objs.size + 1) = some (PySem.HandSPX.excO C hp.objs.size) := by heap_get
  refine wpAny_call (PySem.HandSPX.call_own F.excBase_ValueError (fun Y => PySem.HandSPX.refsVE_contains Y bm hbm) (kx _ _ hC) (looks_findIn kx a1) (fun self => bind_fn kx self a2) (by show 1 ≤ sizeLine; rw [sizeLine_eq]; omega) ?_)
  refine init_run (kx.keeps up) (show (A.under (.builtin "type.__call__" ⟨.ref C :: [v], []⟩)).depth < recursionLimit from by have := hr.dp; show A.depth + 1 < _; omega) G.T (hg.keeps up) (hb.keeps up) hms hbs (hlim.keeps up) a3 a4 a5 a6 a7 a8 a9 b1 b2 (b3 _ _ _).1 b4 b5 b6 b7 b8 b9 c1 c2 c3 c4 c5 c6 c7 c9 c8 hget ?_ ?_
  · cases z : K.lookup (hp.objs.size + 1) with
    | none => rfl
    | some o =>
      exact absurd (Heap.lt_size (kx _ _ z)) (Nat.not_lt.mpr (Nat.le_succ _))
  · intro h' tk' dx t1 kp dn he hn
    have sz : hp.objs.size ≤ ((hp.push (kdv_tup [v])).push (PySem.HandSPX.excO C hp.objs.size)).objs.size := by
      have := Heap.lt_size hget
      exact Nat.le_of_lt (Nat.lt_of_succ_lt this)
    exact ⟨rfl, hq h' tk' _ dx t1 (fun b o z => kp b o (Nat.ne_of_lt (Nat.lt_succ_of_lt (Heap.lt_size z))) (up b o z)) (Nat.le_succ _) (Nat.le_trans sz dn) he hn⟩
/-- C(f=v) -/
theorem call_gateK {Q : Value → Shared → Prop} (G : Gate prog K C f) (kx : K.In hp) (hr : L2.Room 0 A) (hg : hp.Ns mainGlobals mg) (hb : hp.Ns builtinsNs mb) (hms : mg "super" = none) (hbs : mb "super" = some (.type "super")) (hlim : hp.NoLimit)
    (hq : ∀ h' tk' e dx t1, (∀ b o, hp.get? b = some o → h'.get? b = some o) → hp.objs.size ≤ e → hp.objs.size ≤ dx → h'.get? e = some { cls := .ref C, dict := some dx, data := .fields #[.ref t1, .none, .none, .none, .bool false, .none] } →
      h'.Ns1 dx (fun y => if y = f then some v else none) → Q (.ref e) ⟨h', g, d, tk', os⟩) :
    wpAny (model prog w) A (call (.ref C) [] [(f, v)]) Q E ⟨hp, g, d, t, os⟩ := by
  obtain ⟨nm, q, N, bs, bm, sn, sub, ab, col, dd, k0, k1, k2, k3, k5, hC, hbm⟩ := G.T.cls
  obtain ⟨fI, cda, cc, name, qual, text, kk, params, scope, dV, kV, doc, pm, ct, ccl, cl, an, od, cdd, cld, osl, ccs, csl, p0, p1, p2, p3, p4, p5, p6, p7, p8, p9, ar, vs, file, tf, pl,
    a1, a2, a3, a4, a5, a6, a7, a8, a9, b1, b2, b3, b4, b5, b6, b7, b8, b9, c1, c2, c3, c4, c5, c6, c7, c8, c9⟩ := G.rest
  have up : ∀ b o, hp.get? b = some o → ((hp.push (kdv_tup [])).push (PySem.HandSPX.excO C hp.objs.size)).get? b = some o := fun b o z => Heap.get?_push_of_some _ (Heap.get?_push_of_some _ z)
  have hget : ((hp.push (kdv_tup [])).push (PySem.HandSPX.excO C hp.objs.size)).get? (hp.objs.size + 1) = some (PySem.HandSPX.excO C hp.objs.size) := by heap_get
  refine wpAny_call (PySem.GAK.call_kw F.excBase_ValueError (fun Y => PySem.HandSPX.refsVE_contains Y bm hbm) (kx _ _ hC) (looks_findIn kx a1) (fun self => bind_fn kx self a2) ?_)
  refine init_run (kx.keeps up) (show (A.under (.builtin "type.__call__" ⟨[.ref C], [(f, v)]⟩)).depth < recursionLimit from by have := hr.dp; show A.depth + 1 < _; omega) G.T (hg.keeps up) (hb.keeps up) hms hbs (hlim.keeps up) a3 a4 a5 a6 a7 a8 a9 b1 b2 (b3 _ _ _).2 b4 b5 b6 b7 b8 b9 c1 c2 c3 c4 c5 c6 c7 c9 c8 hget ?_ ?_
  · cases z : K.lookup (hp.objs.size + 1) with
    | none => rfl
    | some o =>
      exact absurd (Heap.lt_size (kx _ _ z)) (Nat.not_lt.mpr (Nat.le_succ _))
  · intro h' tk' dx t1 kp dn he hn
    have sz : hp.objs.size ≤ ((hp.push (kdv_tup [])).push (PySem.HandSPX.excO C hp.objs.size)).objs.size := by
      have := Heap.lt_size hget
      exact Nat.le_of_lt (Nat.lt_of_succ_lt this)
    exact ⟨rfl, hq h' tk' _ dx t1 (fun b o z => kp b o (Nat.ne_of_lt (Nat.lt_succ_of_lt (Heap.lt_size z))) (up b o z)) (Nat.le_succ _) (Nat.le_trans sz dn) he hn⟩
end
end GA
namespace L2
open PyProof.Rows PySem PySem.Spec
section
variable {X : Cx} {e : Expr} {te : TE} {x : Str} {C : Addr} {f : Str} {p pos : Pos}
theorem gate_xd {mA : Str → Option Value} {y : V} {u : Value} (r : RelV y u) (hm : mA = fun z => if z = f then some u else none) (g : Str) : RelO (([(f, y)] : List (Str × V)).lookup g) (mA g) := by
  subst hm
  exact relO_put (fs := []) (mA := fun _ => none) r (fun _ => True.intro) g
/-- raise C(e): C's own __init__ keeps e as the field f -/
theorem pmk_gate (G : GA.Gate X.prog X.K C f) (hr : Room 0 X.A) (hms : X.mg "super" = none) (hg : Gl X x) (hm : X.mg x = some (.ref C)) (he : PE X e te) (hs : starEach [e] X.env = (false, eval e X.env) :: starEach [] X.env := by rfl) (hdb : (x == ("__debug__" : Str)) = false := by decide) :
    L2N.PMk X (.Call (.Name x p) [e] [] pos) (fun σ H Q => te σ H fun y H1 => ∀ dx, H1 dx = none → Q (.ref C) (some dx) (upd H1 dx (.xd [(f, y)]))) := by
  intro pins s σ H Q I h
  (refine wpAny_Call_Name_kw (ld_glob I hg hm ?_ hdb))
  refine PySem.W.callWith_K (h₀ := X.base) I.ok.mod.kin G.T.kC ?_ hs (by rfl)
  rw [hs]
  (show wpAny _ _ (spliced ((false, eval e X.env) :: backTo pos (starEach [] X.env))) _ _ s)
  refine Calls.spliced_cons (thn (he.run pins s σ H _ I h) fun u s1 ⟨y, H1, I1, r1, q1⟩ => ?_)
  (refine Calls.spliced_nil ⟨I1.kIn, ?_⟩)
  (show wpAny _ _ (call (.ref C) [u]) _ _ _)
  obtain ⟨mb, b1, b2⟩ := I1.mod.blt
  obtain ⟨hp, g, d, t, os⟩ := s1
  refine GA.call_gate G I1.kIn hr (I1.mod.glob.keeps I1.bk) (b1.keeps I1.bk) hms ((b2 "super" (by decide)).trans (by kernel_rfl)) (I1.mod.nolimit.keeps I1.bk) fun h' tk' a dx t1 kp ha hd hae hn => ?_
  have hda : dx ≠ a := fun z => by
    obtain ⟨o, es, ep, e1, e2, _⟩ := hn
    rw [z, hae] at e1
    have z2 := Option.some.inj e1
    subst z2
    cases e2
  obtain ⟨G', g1, g2⟩ := restrict h' fun b => decide (b ≠ a)
  have gk : ∀ b, b ≠ a → G'.get? b = h'.get? b := fun b hb => g1 b (decide_eq_true hb)
  have ge : G'.get? a = none := g2 a (by simp)
  have nH : H1 dx = none := I1.hok.fresh hd
  have nA : H1 a = none := I1.hok.fresh ha
  have J : Inv X pins σ (upd H1 dx (.xd [(f, y)])) ⟨G', g, d, tk', os⟩ := I1.laid (t' := tk') (a := dx) (o := .xd [(f, y)]) (h' := G') (fun b o z => (gk b (Nat.ne_of_lt (Nat.lt_of_lt_of_le (Heap.lt_size z) ha))).trans (kp b o z)) hd
    ⟨_, hn.at fun o z => (gk dx hda).trans z, gate_xd r1 rfl⟩
  exact ⟨a, _, _, ⟨G', g, d, tk', os⟩, _, .ref C, some dx, rfl, J, fun b o z => by
    by_cases hba : b = a
    · rw [hba, ge] at z
      cases z
    · exact (gk b hba).symm.trans z, ge, hae, ⟨rfl, rfl, fun vs e => by cases e; rfl⟩, rfl, rfl, by rw [upd_ne (Ne.symm hda)]; exact nA, rfl, I1.bare, raises_own G.T.exC G.T.tyC, q1 dx nH⟩
/-- C(e).f: the exception is made, its field read, and let lie -/
theorem pe_gateF {apos : Pos} (G : GA.Gate X.prog X.K C f) (T : XfC X.K C) (hno : PySem.W.findIn X.K (.ref C) f = some none) (hr : Room 0 X.A) (hms : X.mg "super" = none) (hg : Gl X x) (hm : X.mg x = some (.ref C)) (he : PE X e te)
    (hs : starEach [e] X.env = (false, eval e X.env) :: starEach [] X.env := by rfl) (hdb : (x == ("__debug__" : Str)) = false := by decide)
    (hb : attributeBase (.Call (.Name x p) [e] [] pos) f X.env (eval (.Call (.Name x p) [e] [] pos) X.env) = eval (.Call (.Name x p) [e] [] pos) X.env := by rfl) :
    PE X (.Attribute (.Call (.Name x p) [e] [] pos) f apos) te := by
  (refine ⟨fun pins s σ H Q I h => ?_⟩)
  refine attr_of hb ?_
  (refine wpAny_Call_Name_kw (ld_glob I hg hm ?_ hdb))
  refine PySem.W.callWith_K (h₀ := X.base) I.ok.mod.kin G.T.kC ?_ hs (by rfl)
  rw [hs]
  (show wpAny _ _ (spliced ((false, eval e X.env) :: backTo pos (starEach [] X.env))) _ _ s)
  refine Calls.spliced_cons (thn (he.run pins s σ H _ I h) fun u s1 ⟨y, H1, I1, r1, q1⟩ => ?_)
  (refine Calls.spliced_nil ⟨I1.kIn, ?_⟩)
  (show wpAny _ _ (call (.ref C) [u]) _ _ _)
  obtain ⟨mb, b1, b2⟩ := I1.mod.blt
  obtain ⟨hp, g, d, t, os⟩ := s1
  refine GA.call_gate G I1.kIn hr (I1.mod.glob.keeps I1.bk) (b1.keeps I1.bk) hms ((b2 "super" (by decide)).trans (by kernel_rfl)) (I1.mod.nolimit.keeps I1.bk) fun h' tk' a dx t1 kp ha hd hae hn => ?_
  have J : Inv X pins σ H1 ⟨h', g, d, tk', os⟩ := I1.kept (t' := tk') kp
  obtain ⟨od, ho, hl⟩ := lookIn_ns hn
  have IA : PySem.W.InstAt h' a _ C (some od) := ⟨hae, rfl, rfl, ho⟩
  exact HandSPX.exc_get J.kIn IA T.ga T.gg T.exC (PySem.W.findObj_own T.hdC hno rfl (by rw [hl, if_pos rfl])) (handed_of r1) ⟨y, H1, J.tok _, r1, q1⟩
/-- C(f=e).f -/
theorem pe_gateFK {apos kp : Pos} (G : GA.Gate X.prog X.K C f) (T : XfC X.K C) (hno : PySem.W.findIn X.K (.ref C) f = some none) (hr : Room 0 X.A) (hms : X.mg "super" = none) (hg : Gl X x) (hm : X.mg x = some (.ref C)) (he : PE X e te) (hdb : (x == ("__debug__" : Str)) = false := by decide)
    (hb : attributeBase (.Call (.Name x p) [] [⟨some f, e, kp⟩] pos) f X.env (eval (.Call (.Name x p) [] [⟨some f, e, kp⟩] pos) X.env) = eval (.Call (.Name x p) [] [⟨some f, e, kp⟩] pos) X.env := by rfl) :
    PE X (.Attribute (.Call (.Name x p) [] [⟨some f, e, kp⟩] pos) f apos) te := by
  (refine ⟨fun pins s σ H Q I h => ?_⟩)
  refine attr_of hb ?_
  (refine wpAny_Call_Name_kw (ld_glob I hg hm ?_ hdb))
  let Q' : List V → Hp → Prop := fun xs H1 => match xs with
    | [y] => Q y H1
    | _ => False
  refine PySem.W.callWith_KW0 (h₀ := X.base) I.ok.mod.kin G.T.kC (by rfl) (thn ((pk_cons (nm := some f) (kpos := kp) he pk_nil).run pos pins s σ H Q' I h) fun ks s1 ⟨xs, H1, I1, rr, q1⟩ => ?_) (by rfl)
  cases rr with
  | nil => exact q1.elim
  | cons r1 rn =>
    cases rn with
    | cons _ _ => exact q1.elim
    | nil =>
      rename_i y u _
      refine ⟨I1.kIn, ?_⟩
      show wpAny _ _ (call (.ref C) [] [(f, u)]) _ _ _
      obtain ⟨mb, b1, b2⟩ := I1.mod.blt
      obtain ⟨hp, g, d, t, os⟩ := s1
      refine GA.call_gateK G I1.kIn hr (I1.mod.glob.keeps I1.bk) (b1.keeps I1.bk) hms ((b2 "super" (by decide)).trans (by kernel_rfl)) (I1.mod.nolimit.keeps I1.bk) fun h' tk' a dx t1 kp ha hd hae hn => ?_
      have J : Inv X pins σ H1 ⟨h', g, d, tk', os⟩ := I1.kept (t' := tk') kp
      obtain ⟨od, ho, hl⟩ := lookIn_ns hn
      have IA : PySem.W.InstAt h' a _ C (some od) := ⟨hae, rfl, rfl, ho⟩
      exact HandSPX.exc_get J.kIn IA T.ga T.gg T.exC (PySem.W.findObj_own T.hdC hno rfl (by rw [hl, if_pos rfl])) (handed_of r1) ⟨y, H1, J.tok _, r1, q1⟩
end
end L2
end

section
set_option maxRecDepth 100000
set_option maxHeartbeats 2000001
/-! PvGb: the facts of PvGa's classes, by a look at the written part. -/
namespace GA
open PySem PySem.Spec PySem.W PySem.Calls PyProof.Rows
theorem ba {a b : Bool} (w : (a && b) = true) : a = true ∧ b = true := Bool.and_eq_true_iff.mp w
/-- the class itself -/
def oexB (K : Frag) (C : Addr) : Bool := (match K.lookup C with
  | some ⟨.type t, _, .cls cd, sl⟩ => (match cd.mro, sl.toList with
    | .ref C' :: bm, [_, _, _, _, some (.builtin n), _] => decide (t = "type") && (decide (C' = C) && (decide (n = "ValueError.__new__") && (!cd.hasDel && (cd.hasDict && PySem.HandSPX.refsVE bm))))
    | _, _ => false)
  | _ => false) && (decide (findIn K (.ref C) "__setattr__" = some (some (.builtin "object.__setattr__"))) && (decide (subIn K (.ref C) (.type "BaseException") = some true) && (decide (typeIn K (.ref C) = some (.type "type")) && keepIn K (.ref C))))
theorem oexB_ok {K : Frag} {C : Addr} (h : oexB K C = true) : L2.OexC K C := by
  obtain ⟨h1, h⟩ := ba h
  obtain ⟨h2, h⟩ := ba h
  obtain ⟨h3, h⟩ := ba h
  obtain ⟨h4, h5⟩ := ba h
  refine ⟨?_, of_decide_eq_true h2, of_decide_eq_true h3, of_decide_eq_true h4, h5⟩
  split at h1
  · rename_i t dd cd sl ho
    split at h1
    · (rename_i C' bm k0 k1 k2 k3 n k5 hm hs)
      obtain ⟨a1, h1⟩ := ba h1
      obtain ⟨a2, h1⟩ := ba h1
      obtain ⟨a3, h1⟩ := ba h1
      obtain ⟨a4, h1⟩ := ba h1
      obtain ⟨a5, a6⟩ := ba h1
      have a1 := of_decide_eq_true a1
      have a2 := of_decide_eq_true a2
      have a3 := of_decide_eq_true a3
      subst a1 a2 a3
      (obtain ⟨nm, bs, mro, ns, qn, hd, sn, sub, ab, col, del⟩ := cd)
      dsimp only at hm a4 a5
      have a4 : del = false := by simpa using a4
      subst hm a4 a5
      have hsl : sl = #[k0, k1, k2, k3, some (.builtin "ValueError.__new__"), k5] := by
        obtain ⟨l⟩ := sl
        simp only at hs
        rw [hs]
      subst hsl
      exact ⟨nm, qn, ns, bs, bm, sn, sub, ab, col, dd, k0, k1, k2, k3, k5, ho, a6⟩
    · cases h1
  · cases h1
abbrev FnC : Type := Option (Str × Str × Arguments × FuncBody × Scope)
/-- what stands at a: a function's words -/
def fnC (K : Frag) (a : Addr) : FnC := match K.lookup a with
  | some ⟨_, _, .func fd, _⟩ => some (fd.name, fd.qualname, fd.params, fd.body, fd.scope)
  | _ => none
def iniB (K : Frag) (C fI : Addr) (file : Str) : Bool := match K.lookup fI with
  | some ⟨.type t, _, .func fd, _⟩ => decide (t = "function") && (decide (fd.globals = mainGlobals) && (decide (fd.builtins = builtinsNs) && (decide (fd.defaults = .none) && ((match fd.closure with
      | [(y, cc)] => decide (y = ("__class__" : Str)) && (match K.lookup cc with
        | some ⟨_, _, .cell (some (.ref D)), _⟩ => decide (D = C)
        | _ => false) | _ => false) && (match fd.code with
      | .ref cda => codeIn K (.ref cda) fd.qualname && (match K.lookup cda with
        | some ⟨_, _, .fields vs, _⟩ => (match (vs[2]? : Option Value) with
          | some (Value.str fl _) => file == fl
          | _ => false)
        | _ => false)
      | _ => false)))))
  | _ => false
theorem iniB_ok {K : Frag} {C fI : Addr} {file name qual : Str} {params : Arguments} {body : List Stmt} {scope : Scope} (h : iniB K C fI file = true) (hf : fnC K fI = some (name, qual, params, .stmts body, scope)) :
    ∃ (cda cc : Addr) (kV doc pm ct ccl cl : Value) (an od cdd cld : Option Addr) (osl ccs csl : Array (Option Value)) (vs : Array Value) (fl : Str) (tf : Tok),
      K.lookup fI = some ⟨.type "function", od, .func (ksFn name qual params body scope .none kV doc pm an (.ref cda) ct cc), osl⟩ ∧ codeIn K (.ref cda) qual = true ∧
      K.lookup cda = some ⟨ccl, cdd, .fields vs, ccs⟩ ∧ vs[2]? = some (.str fl tf) ∧ (file == fl) = true ∧ K.lookup cc = some ⟨cl, cld, .cell (some (.ref C)), csl⟩ := by
  unfold iniB at h
  unfold fnC at hf
  split at h
  · rename_i t od fd osl ho
    rw [ho] at hf
    obtain ⟨a1, h⟩ := ba h
    obtain ⟨a2, h⟩ := ba h
    obtain ⟨a3, h⟩ := ba h
    obtain ⟨a4, h⟩ := ba h
    obtain ⟨a5, a6⟩ := ba h
    have r1 := of_decide_eq_true a1
    have r2 := of_decide_eq_true a2
    have r3 := of_decide_eq_true a3
    have r4 := of_decide_eq_true a4
    split at a5
    · rename_i y cc hcl
      obtain ⟨b1, b2⟩ := ba a5
      have w1 := of_decide_eq_true b1
      split at b2
      · rename_i cl cld D csl hcc
        have w2 := of_decide_eq_true b2
        split at a6
        · rename_i cda hcd
          obtain ⟨c1, c2⟩ := ba a6
          split at c2
          · rename_i ccl cdd vs ccs hlk
            split at c2
            · rename_i fl tf hv
              (obtain ⟨n1, n2, n3, n4, n5, n6, n7, n8, n9, n10, n11, n12, n13, n14, n15⟩ := fd)
              dsimp only at r2 r3 r4 hcl hcd c1 hf
              have hf := Option.some.inj hf
              obtain ⟨e1, e2, e3, e4, e5⟩ : n1 = name ∧ n2 = qual ∧ n3 = params ∧ n4 = .stmts body ∧ n5 = scope := by simpa using hf
              subst r1 r2 r3 r4 w1 w2 hcl hcd e1 e2 e3 e4 e5
              exact ⟨cda, cc, _, _, _, _, ccl, cl, _, od, cdd, cld, osl, ccs, csl, vs, fl, tf, ho, c1, hlk, hv, c2, hcc⟩
            · cases c2
          · cases c2
        · cases a6
      · cases b2
    · cases a5
  · cases h
def gB (K : Frag) (C : Addr) (f file : Str) : Bool := oexB K C && ((match findIn K (.ref C) "__init__" with
    | some (some (.ref fI)) => decide (typeIn K (.ref fI) = some (.type "function")) && iniB K C fI file
    | _ => false) && (decide (ks_superIn K C C "__init__" = some (some (.builtin "ValueError.__init__"))) && (decide (subIn K (.ref C) (.type "ValueError") = some true) && (decide (nsIn K cStatics "thirdparty.any" = some none) && decide (findIn K (.ref C) f = some none)))))
/-- what the text of such an __init__ must show -/
def scB (sc : Scope) (f : Str) : Bool := decide (sc.names.lookup ("super" : Str) = some .globalImplicit) && (decide (sc.names.lookup ("__class__" : Str) = some .free) && (decide (sc.names.lookup ("self" : Str) = some .local) && (decide (sc.names.lookup f = some .local) &&
  ((sc.names.all fun x => decide (x.2 ≠ .cell)) && (!sc.isCoroutine && (!sc.isGenerator && (decide (f ≠ "self") && !(f == ("__debug__" : Str)))))))))
structure Text (prog : Program) (f name qual text : Str) (k : Nat) (params : Arguments) (scope : Scope) (p0 p1 p2 p3 p4 p5 p6 p7 p8 p9 : Pos) : Prop where
  top : (prog.main.scope.names.lookup ("super" : Str)).isSome = false
  hd : ∃ ar, (params.posonlyargs ++ params.args).head? = some ar ∧ ar.arg = "self"
  sc : scB scope f = true
  kind : scope.kind = .function
  bind : ∀ (kV doc pm ct cdv : Value) (an : Option Addr) (cc : Addr) (u v : Value), bindArgs (ksFn name qual params (gBody text f k p0 p1 p2 p3 p4 p5 p6 p7 p8 p9) scope .none kV doc pm an cdv ct cc) ⟨[u, v], []⟩ = pure ([("self", u), (f, v)] : List (Str × Value)) ∧
    bindArgs (ksFn name qual params (gBody text f k p0 p1 p2 p3 p4 p5 p6 p7 p8 p9) scope .none kV doc pm an cdv ct cc) ⟨[u], [(f, v)]⟩ = pure ([("self", u), (f, v)] : List (Str × Value))
  ev : ∃ pl : Env → Sem Bool, ∀ env : Env, eval (.Call (.Attribute (.Call (.Name "super" p0) [] [] p1) "__init__" p2) [.Constant (.str text) k p3] [] p4) env = (do
      let ov ← attributeBase (.Call (.Name "super" p0) [] [] p1) "__init__" env (eval (.Call (.Name "super" p0) [] [] p1) env)
      standAt p2.atName
      let (f, first) ← holding [ov] (getMethod ov "__init__" (pl env))
      callWith p4 f first (backTo p4 (starEach [.Constant (.str text) k p3] env)) [])
theorem gate_of {prog : Program} {K : Frag} {C : Addr} {f name qual text : Str} {k : Nat} {params : Arguments} {scope : Scope} {p0 p1 p2 p3 p4 p5 p6 p7 p8 p9 : Pos} (t : Text prog f name qual text k params scope p0 p1 p2 p3 p4 p5 p6 p7 p8 p9)
    (h : gB K C f prog.main.file = true) (hf : fnC K (He.ma K C "__init__") = some (name, qual, params, .stmts (gBody text f k p0 p1 p2 p3 p4 p5 p6 p7 p8 p9), scope)) : Gate prog K C f := by
  obtain ⟨h1, h⟩ := ba h
  obtain ⟨h2, h⟩ := ba h
  obtain ⟨h3, h⟩ := ba h
  obtain ⟨h4, h⟩ := ba h
  obtain ⟨h5, h6⟩ := ba h
  refine ⟨oexB_ok h1, ?_⟩
  split at h2
  · rename_i fI hi
    obtain ⟨a1, a2⟩ := ba h2
    have e : He.ma K C "__init__" = fI := by unfold He.ma; rw [hi]
    rw [e] at hf
    obtain ⟨cda, cc, kV, doc, pm, ct, ccl, cl, an, od, cdd, cld, osl, ccs, csl, vs, fl, tf, l1, l2, l3, l4, l5, l6⟩ := iniB_ok a2 hf
    obtain ⟨ar, r1, r2⟩ := t.hd
    obtain ⟨pl, r3⟩ := t.ev
    obtain ⟨b1, b⟩ := ba t.sc
    obtain ⟨b2, b⟩ := ba b
    obtain ⟨b3, b⟩ := ba b
    obtain ⟨b4, b⟩ := ba b
    obtain ⟨b5, b⟩ := ba b
    obtain ⟨b6, b⟩ := ba b
    obtain ⟨b7, b⟩ := ba b
    obtain ⟨b8, b9⟩ := ba b
    exact ⟨fI, cda, cc, name, qual, text, k, params, scope, .none, kV, doc, pm, ct, ccl, cl, an, od, cdd, cld, osl, ccs, csl, p0, p1, p2, p3, p4, p5, p6, p7, p8, p9, ar, vs, fl, tf, pl,
      hi, of_decide_eq_true a1, l1, l2, l3, l4, l5, t.top, l6, r1, r2, fun s u v => ⟨.of_eq (t.bind _ _ _ _ _ _ _ u v).1, .of_eq (t.bind _ _ _ _ _ _ _ u v).2⟩, of_decide_eq_true b1, of_decide_eq_true b2, of_decide_eq_true b3, of_decide_eq_true b4,
      fun x hx => of_decide_eq_true (List.all_eq_true.mp b5 x hx), by simpa using b6, by simpa using b7, t.kind, of_decide_eq_true b8, by simpa using b9, of_decide_eq_true h3, of_decide_eq_true h4, of_decide_eq_true h5, of_decide_eq_true h6, r3⟩
  · cases h2
/-! ### the head's look -/
abbrev AlC : Type := He.AlD × Bool × List FnC
/-- the classes that the law's text makes, with their __init__ -/
abbrev GD : Type := Str × FnC
def refsC (g : Addr → Option Obj) (a : Addr) : List Addr := match g a with
  | some o => He.refsD o
  | none => []
/-- what these lead to in n steps -/
def runC (g : Addr → Option Obj) : Nat → List Addr → List Addr
  | 0, as => as
  | n + 1, as => as ++ runC g n (as.flatMap (refsC g))
/-- the names' things, and what they lead to in n steps -/
def fragC (names : List Str) (n : Nat) (g : Addr → Option Obj) : Frag := He.frG g (mainGlobals :: cStatics :: runC g n (names.map (He.ga (He.frG g [mainGlobals]))))
def obsC (fa : List He.Fa) (fn : List He.DefD) (gs : List GD) (ex : Frag → Bool) (K : Frag) : AlC := (He.obsD fa fn K, ex K, gs.map fun c => fnC K (He.ma K (He.ga K c.1) "__init__"))
def valC (fn : List He.DefD) (gs : List GD) : AlC := (He.valD fn, true, gs.map (·.2))
def SaysC (fa : List He.Fa) (fn : List He.DefD) (gs : List GD) (ex : Frag → Bool) (K : Frag) : Prop := obsC fa fn gs ex K = valC fn gs
def hookC (names : List Str) (n : Nat) (fa : List He.Fa) (fn : List He.DefD) (gs : List GD) (ex : Frag → Bool) : Hook where
  α := AlC
  obs := fun s => obsC fa fn gs ex (fragC names n s.heap.get?)
  val := fun _ => valC fn gs
  says := fun _ h => ∃ K : Frag, K.In h ∧ SaysC fa fn gs ex K
  of := fun _ _ e => ⟨_, He.frG_in, e⟩
  keeps := fun _ _ _ ⟨K, kin, c⟩ k => ⟨K, Frag.In.keeps kin k, c⟩
theorem obsC_eq {names : List Str} {n : Nat} {fa : List He.Fa} {fn : List He.DefD} {gs : List GD} {ex : Frag → Bool} {g : Addr → Option Obj} {s : Shared} (h : ∀ a, g a = s.heap.get? a) : obsC fa fn gs ex (fragC names n g) = (hookC names n fa fn gs ex).obs s := by
  (have e : g = s.heap.get? := funext h)
  rw [e] <;> rfl
section
variable {fa : List He.Fa} {fn : List He.DefD} {gs : List GD} {ex : Frag → Bool} {K : Frag}
theorem SaysC.d (c : SaysC fa fn gs ex K) : He.SaysD fa fn K := congrArg (fun z : AlC => z.1) c
theorem SaysC.more (c : SaysC fa fn gs ex K) : ex K = true := congrArg (fun z : AlC => z.2.1) c
theorem SaysC.gate (c : SaysC fa fn gs ex K) (i : Nat) {p : GD} (h : gs[i]? = some p := by rfl) : fnC K (He.ma K (He.ga K p.1) "__init__") = p.2 := by
  have e : (gs.map fun c => fnC K (He.ma K (He.ga K c.1) "__init__")) = gs.map (·.2) := congrArg (fun z : AlC => z.2.2) c
  have e2 : (gs.map fun c => fnC K (He.ma K (He.ga K c.1) "__init__"))[i]? = (gs.map (·.2))[i]? := by rw [e]
  (rw [List.getElem?_map, List.getElem?_map, h] at e2)
  exact Option.some.inj e2
end
end GA
end

section
set_option maxRecDepth 100000
namespace PV
open L2 PySem PySem.Spec PyProof.Rows

/-! ### what a value is, by its data -/
section
variable {K : PySem.W.Frag} {J J' : Jn} {H H' : Hp} {h h' : Hh} {d : D} {v : V} {ds : List D} {vs : List V}
theorem size_of {n : Nat} (h : sizeOk n = true) : n ≤ sizeLine := by rw [sizeLine_eq]; exact of_decide_eq_true h
theorem RD.int_inv {i : Int} (r : RD K J H (.int i) v) : v = .int i := by cases r; rfl
theorem RD.bl_inv {b : Bool} (r : RD K J H (.bl b) v) : v = .bl b := by cases r; rfl
theorem RD.str_inv {x : Str} (r : RD K J H (.str x) v) : v = .str x := by cases r; rfl
theorem RD.tup_inv (r : RD K J H (.tup ds) v) : ∃ a vs, v = .ref a ∧ SqT K H a vs ∧ vs.length ≤ sizeLine ∧ RDs K J H ds vs := by
  cases r with
  | tup n m q z r => exact ⟨_, _, rfl, .inl (.inl q), z, r⟩
  | ktup k z r => exact ⟨_, _, rfl, .inr k, z, r⟩
theorem RD.ft_inv (r : RD K J H (.ftup ds) v) : ∃ a vs, v = .ref a ∧ SqT K H a vs ∧ vs.length ≤ sizeLine ∧ RDs K J H ds vs := by
  cases r with
  | ft n m q c d z r => exact ⟨_, _, rfl, .inl (.inr ⟨_, q⟩), z, r⟩
theorem own_inv (rh : RH K J h H) (e : d.own h = some ds) (r : RD K J H d v) : ∃ a vs, v = .ref a ∧ H a = some (.lst vs) ∧ vs.length ≤ sizeLine ∧ RDs K J H ds vs := by
  cases d with
  | lst xs =>
    cases r with
    | lst n m q z r => cases e; exact ⟨_, _, rfl, q, z, r⟩
  | ref i =>
    cases r with
    | ref q =>
      obtain ⟨o, u, h1, h2, h3⟩ := rh.at q
      simp only [D.own, h1] at e
      cases h3 with
      | lst z r => cases e; exact ⟨_, _, rfl, h2, z, r⟩
      | dct z r => cases e
      | tb t r => cases e
  | _ => cases e
theorem seq_inv (rh : RH K J h H) (e : d.seq h = some ds) (r : RD K J H d v) : ∃ a vs, v = .ref a ∧ (SqL K H a vs ∨ SqT K H a vs) ∧ vs.length ≤ sizeLine ∧ RDs K J H ds vs := by
  cases d with
  | tup xs =>
    cases e
    obtain ⟨a, vs, e1, e2, e3, e4⟩ := r.tup_inv
    exact ⟨a, vs, e1, .inr e2, e3, e4⟩
  | lst xs =>
    cases r with
    | lst n m q z r => cases e; exact ⟨_, _, rfl, .inl (.inl (.inl q)), z, r⟩
  | fz xs =>
    cases r with
    | fz n m q z r => cases e; exact ⟨_, _, rfl, .inl (.inl (.inr ⟨_, q⟩)), z, r⟩
    | kfz k z r => cases e; exact ⟨_, _, rfl, .inl (.inr k), z, r⟩
  | ftup xs =>
    cases r with
    | ft n m q c d z r => cases e; exact ⟨_, _, rfl, .inr (.inl (.inr ⟨_, q⟩)), z, r⟩
  | ref i =>
    cases r with
    | ref q =>
      obtain ⟨o, u, h1, h2, h3⟩ := rh.at q
      simp only [D.seq, h1] at e
      cases h3 with
      | lst z r => cases e; exact ⟨_, _, rfl, .inl (.inl (.inl h2)), z, r⟩
      | dct z r => cases e
      | tb t r => cases e
  | _ => cases e
/-- a list as it stands -/
theorem res_inv (rh : RH K J h H) (e : d.res h = .lst ds) (r : RD K J H d v) : ∃ a vs, v = .ref a ∧ SqL K H a vs ∧ vs.length ≤ sizeLine ∧ RDs K J H ds vs := by
  cases d with
  | lst xs =>
    cases r with
    | lst n m q z r => cases e; exact ⟨_, _, rfl, .inl (.inl q), z, r⟩
  | fz xs =>
    cases r with
    | fz n m q z r => cases e; exact ⟨_, _, rfl, .inl (.inr ⟨_, q⟩), z, r⟩
    | kfz k z r => cases e; exact ⟨_, _, rfl, .inr k, z, r⟩
  | ref i =>
    cases r with
    | ref q =>
      obtain ⟨o, u, h1, h2, h3⟩ := rh.at q
      simp only [D.res, h1] at e
      cases h3 with
      | lst z r => cases e; exact ⟨_, _, rfl, .inl (.inl h2), z, r⟩
      | dct z r => cases e
      | tb t r => cases e
  | _ => cases e
theorem res_else {e : D} (h1 : d.res h = e) (h2 : ∀ xs, e ≠ .lst xs) : e = d := by
  cases d with
  | ref i =>
    simp only [D.res] at h1
    split at h1
    · exact absurd h1.symm (h2 _)
    · exact h1.symm
  | fz xs => exact absurd h1.symm (h2 _)
  | _ => exact h1.symm
theorem RD.newTup {p : Addr} (rh : RH K J h H) (n : H p = none) (r : RDs K J H ds vs) (z : vs.length ≤ sizeLine) : RD K J (upd H p (.tup vs)) (.tup ds) (.ref p) :=
  .tup (rh.notin n) (rh.notz n) upd_same z (r.ext (Ext.laid n))
theorem RD.newLst {p : Addr} (rh : RH K J h H) (n : H p = none) (r : RDs K J H ds vs) (z : vs.length ≤ sizeLine) : RD K J (upd H p (.lst vs)) (.lst ds) (.ref p) :=
  .lst (rh.notin n) (rh.notz n) upd_same z (r.ext (Ext.laid n))
end

/-! ### data as the library's data -/
mutual
theorem lay_py : ∀ d : D, d.lay = true → d.py.canLay0 = true
  | .non, _ => by simp only [D.py, PyData.canLay0]
  | .bl _, _ => by simp only [D.py, PyData.canLay0]
  | .int _, _ => by simp only [D.py, PyData.canLay0]
  | .str x, h => by simpa only [D.py, PyData.canLay0, D.lay] using h
  | .tup xs, h => by simp only [D.py, PyData.canLay0]; exact lays_pys xs (by simpa only [D.lay] using h)
  | .lst xs, h => by simp only [D.py, PyData.canLay0]; exact lays_pys xs (by simpa only [D.lay] using h)
  | .ref _, h => by simp [D.lay] at h
  | .fz _, h => by simp [D.lay] at h
  | .ftup _, h => by simp [D.lay] at h
  | .exc _, h => by simp [D.lay] at h
  | .exf _ _ _, h => by simp [D.lay] at h
theorem lays_pys : ∀ xs : List D, D.lays xs = true → PyData.canLayAll0 (D.pys xs) = true
  | [], _ => by simp only [D.pys, PyData.canLayAll0]
  | x :: xs, h => by
    simp only [D.lays, Bool.and_eq_true] at h
    simp only [D.pys, PyData.canLayAll0, lay_py x h.1, lays_pys xs h.2, Bool.and_self]
end
mutual
theorem dep_py : ∀ d : D, d.lay = true → d.py.depth = d.dep
  | .non, _ => by simp only [D.py, PyData.depth, D.dep]
  | .bl _, _ => by simp only [D.py, PyData.depth, D.dep]
  | .int _, _ => by simp only [D.py, PyData.depth, D.dep]
  | .str x, h => by simp only [D.py, PyData.depth, D.dep]
  | .tup xs, h => by simp only [D.py, PyData.depth, D.dep]; rw [deps_pys xs (by simpa only [D.lay] using h)]
  | .lst xs, h => by simp only [D.py, PyData.depth, D.dep]; rw [deps_pys xs (by simpa only [D.lay] using h)]
  | .ref _, h => by simp [D.lay] at h
  | .fz _, h => by simp [D.lay] at h
  | .ftup _, h => by simp [D.lay] at h
  | .exc _, h => by simp [D.lay] at h
  | .exf _ _ _, h => by simp [D.lay] at h
theorem deps_pys : ∀ xs : List D, D.lays xs = true → PyData.depthAll (D.pys xs) = D.deps xs
  | [], _ => by simp only [D.pys, PyData.depthAll, D.deps]
  | x :: xs, h => by
    simp only [D.lays, Bool.and_eq_true] at h
    simp only [D.pys, PyData.depthAll, D.deps, dep_py x h.1, deps_pys xs h.2]
end
theorem shp_py {d : D} (h : d.shp = true) : SeqAt.shaped d.py = true := by
  simp only [D.shp, Bool.and_eq_true, decide_eq_true_eq] at h
  show (PyData.canLay0 d.py && decide (d.py.depth ≤ 64)) = true
  rw [lay_py d h.1, dep_py d h.1, decide_eq_true h.2]; rfl
theorem shp_lay {d : D} (h : d.shp = true) : d.lay = true := by
  simp only [D.shp, Bool.and_eq_true] at h
  exact h.1
theorem cok_inv {a b : D} (h : D.cok a b = true) : a.lay = true ∧ b.lay = true ∧ min a.dep b.dep ≤ 64 := by
  unfold D.cok at h
  (simp only [Bool.or_eq_true, Bool.and_eq_true, decide_eq_true_eq] at h)
  rcases h with ⟨h1, h2⟩ | ⟨h1, h2, h3⟩
  · refine ⟨shp_lay h1, shp_lay h2, ?_⟩
    simp only [D.shp, Bool.and_eq_true, decide_eq_true_eq] at h1
    omega
  · exact ⟨h1, h2, h3⟩
theorem str_eqb (x y : Str) : (x == y) = decide (x = y) := by
  by_cases e : x = y
  · subst e; simp
  · rw [decide_eq_false e]; exact beq_eq_false_iff_ne.mpr e
mutual
theorem eqv_py : ∀ d e : D, d.lay = true → e.lay = true → PyData.eqv d.py e.py = D.eqv d e
  | .non, e, _, he => by cases e <;> first | (simp only [D.py, PyData.eqv, D.eqv]; done) | (simp [D.lay] at he; done)
  | .bl _, e, _, he => by cases e <;> first | (simp only [D.py, PyData.eqv, D.eqv]; done) | (simp [D.lay] at he; done)
  | .int _, e, _, he => by cases e <;> first | (simp only [D.py, PyData.eqv, D.eqv]; done) | (simp [D.lay] at he; done)
  | .str x, e, _, he => by cases e <;> first | (simp only [D.py, PyData.eqv, D.eqv, str_eqb]; done) | (simp [D.lay] at he; done)
  | .tup xs, e, hd, he => by
    cases e with
    | tup ys => simp only [D.py, PyData.eqv, D.eqv]; exact eqvs_pys xs ys (by simpa only [D.lay] using hd) (by simpa only [D.lay] using he)
    | ref _ => simp [D.lay] at he
    | fz _ => simp [D.lay] at he
    | ftup _ => simp [D.lay] at he
    | exc _ => simp [D.lay] at he
    | exf _ _ _ => simp [D.lay] at he
    | _ => simp only [D.py, PyData.eqv, D.eqv]
  | .lst xs, e, hd, he => by
    cases e with
    | lst ys => simp only [D.py, PyData.eqv, D.eqv]; exact eqvs_pys xs ys (by simpa only [D.lay] using hd) (by simpa only [D.lay] using he)
    | ref _ => simp [D.lay] at he
    | fz _ => simp [D.lay] at he
    | ftup _ => simp [D.lay] at he
    | exc _ => simp [D.lay] at he
    | exf _ _ _ => simp [D.lay] at he
    | _ => simp only [D.py, PyData.eqv, D.eqv]
  | .ref _, _, h, _ => by simp [D.lay] at h
  | .fz _, _, h, _ => by simp [D.lay] at h
  | .ftup _, _, h, _ => by simp [D.lay] at h
  | .exc _, _, h, _ => by simp [D.lay] at h
  | .exf _ _ _, _, h, _ => by simp [D.lay] at h
theorem eqvs_pys : ∀ xs ys : List D, D.lays xs = true → D.lays ys = true → PyData.eqvAll (D.pys xs) (D.pys ys) = D.eqvs xs ys
  | [], [], _, _ => by simp only [D.pys, PyData.eqvAll, D.eqvs]
  | [], y :: ys, _, _ => by simp only [D.pys, PyData.eqvAll, D.eqvs]
  | x :: xs, [], _, _ => by simp only [D.pys, PyData.eqvAll, D.eqvs]
  | x :: xs, (y :: ys), h, h' => by
    simp only [D.lays, Bool.and_eq_true] at h h'
    simp only [D.pys, PyData.eqvAll, D.eqvs, eqv_py x y h.1 h'.1, eqvs_pys xs ys h.2 h'.2]
end
section
variable {K : PySem.W.Frag} {J : Jn} {H : Hp} {h : Hh}
mutual
theorem RD.dp : ∀ (d : D) (v : V), d.lay = true → RD K J H d v → Dp K H v d.py
  | .non, _, _, r => by cases r; simp only [D.py]; exact .non
  | .bl b, _, _, r => by cases r; simp only [D.py]; exact .bl b
  | .int i, _, _, r => by cases r; simp only [D.py]; exact .int i
  | .str x, _, _, r => by cases r; simp only [D.py]; exact .str x
  | .tup xs, _, l, r => by
    obtain ⟨a, vs, rfl, hq, z, rs⟩ := r.tup_inv
    simp only [D.py]; exact .tup hq (RDs.dp xs vs (by simpa only [D.lay] using l) rs)
  | .lst xs, _, l, r => by
    cases r with
    | lst n m q z rs => simp only [D.py]; exact .lst (.inl (.inl q)) (RDs.dp xs _ (by simpa only [D.lay] using l) rs)
  | .ref _, _, l, _ => by simp [D.lay] at l
  | .fz _, _, l, _ => by simp [D.lay] at l
  | .ftup _, _, l, _ => by simp [D.lay] at l
  | .exc _, _, l, _ => by simp [D.lay] at l
  | .exf _ _ _, _, l, _ => by simp [D.lay] at l
theorem RDs.dp : ∀ (ds : List D) (vs : List V), D.lays ds = true → RDs K J H ds vs → DpAll K H vs (D.pys ds)
  | [], _, _, r => by cases r; simp only [D.pys]; exact .nil
  | d :: ds, _, l, r => by
    simp only [D.lays, Bool.and_eq_true] at l
    cases r with | cons a b => simp only [D.pys]; exact .cons (RD.dp d _ l.1 a) (RDs.dp ds _ l.2 b)
end
theorem res_dp {d : D} {v : V} (rh : RH K J h H) (l : (d.res h).lay = true) (r : RD K J H d v) : Dp K H v (d.res h).py := by
  cases e : d.res h with
  | lst xs =>
    obtain ⟨a, vs, rfl, hq, z, rs⟩ := res_inv rh e r
    rw [e] at l
    simp only [D.py]; exact .lst hq (RDs.dp xs vs (by simpa only [D.lay] using l) rs)
  | _ =>
    have e2 := res_else e (fun xs z => by cases z)
    rw [e] at l
    subst e2
    exact RD.dp _ v l r
theorem all_dp (rh : RH K J h H) : ∀ (k : Nat) (d : D) (v : V), (d.all h k).lay = true → RD K J H d v → Dp K H v (d.all h k).py
  | 0, d, v, l, r => RD.dp _ v l r
  | k + 1, d, v, l, r => by
    have many : ∀ (ds : List D) (vs : List V), D.lays (ds.map (D.all h k)) = true → RDs K J H ds vs → DpAll K H vs (D.pys (ds.map (D.all h k))) := by
      intro ds
      induction ds with
      | nil => intro vs _ r; cases r; exact .nil
      | cons x xs ih =>
        intro vs l r
        cases r with
        | cons a b =>
          simp only [List.map_cons, D.lays, Bool.and_eq_true] at l
          exact .cons (all_dp rh k x _ l.1 a) (ih _ l.2 b)
    cases d with
    | ref i =>
      cases r with
      | ref q =>
        obtain ⟨o, u, h1, h2, h3⟩ := rh.at q
        simp only [D.all, h1] at l ⊢
        cases h3 with
        | lst z rr => exact .lst (.inl (.inl h2)) (many _ _ (by simpa only [D.lay] using l) rr)
        | dct z rr => simp [D.lay] at l
        | tb t rr => simp [D.lay] at l
    | tup xs =>
      obtain ⟨a, vs, rfl, hq, z, rs⟩ := r.tup_inv
      exact .tup hq (many xs vs (by simpa only [D.all, D.lay] using l) rs)
    | lst xs =>
      cases r with
      | lst n m q z rs => exact .lst (.inl (.inl q)) (many xs _ (by simpa only [D.all, D.lay] using l) rs)
    | non => exact RD.dp _ v l r
    | bl b => exact RD.dp _ v l r
    | int i => exact RD.dp _ v l r
    | str x => exact RD.dp _ v l r
    | fz xs => simp [D.all, D.lay] at l
    | ftup xs => simp [D.all, D.lay] at l
    | exc c => simp [D.all, D.lay] at l
    | exf c f d => simp [D.all, D.lay] at l
end

/-! ### operators -/
def rOp (K : PySem.W.Frag) (f : Hh → D → D → Option D) : R2 := fun x y H Q => ∃ J h dx dy d, RH K J h H ∧ RD K J H dx x ∧ RD K J H dy y ∧ f h dx dy = some d ∧ ∀ J' H' v, Ext J H J' H' → RH K J' h H' → RD K J' H' d v → Q v H'
def rCmp (K : PySem.W.Frag) (f : Hh → D → D → Option Bool) : R2 := fun x y H Q => ∃ J h dx dy b, RH K J h H ∧ RD K J H dx x ∧ RD K J H dy y ∧ f h dx dy = some b ∧ Q (.bl b) H
section
variable {X : Cx}
theorem ops_add : OpR X (binaryOp .Add) (rOp X.K (opBin .add)) := by
  intro pins s σ H x y v u Q I rx ry ⟨J, h, dx, dy, d, rh, r1, r2, e, q⟩
  simp only [opBin] at e
  split at e
  · cases r1; cases r2; cases e
    exact op_add pins s σ H _ _ v u Q I rx ry ⟨_, _, rfl, rfl, q _ _ _ Ext.refl rh (.int _)⟩
  · cases r1; cases r2
    split at e
    · rename_i hz; cases e
      exact op_add_str pins s σ H _ _ v u Q I rx ry ⟨_, _, rfl, rfl, size_of hz, q _ _ _ Ext.refl rh (.str _)⟩
    · cases e
  · split at e
    · rename_i xs ys hz; cases e
      obtain ⟨a, vs, rfl, ha, za, ra⟩ := r1.tup_inv
      obtain ⟨b, ws, rfl, hb, zb, rb⟩ := r2.tup_inv
      have hlen : vs.length + ws.length ≤ sizeLine := by rw [← ra.length, ← rb.length]; exact size_of hz
      refine op_catA pins s σ H _ _ v u Q I rx ry ⟨a, b, vs, ws, rfl, rfl, ha, hb, hlen, fun e => ?_, fun _ e => ?_, fun _ _ p np => ?_⟩
      · subst e; cases ra; exact q _ _ _ Ext.refl rh (by simpa using r2)
      · subst e; cases rb; exact q _ _ _ Ext.refl rh (by simpa using r1)
      · exact q _ _ _ (Ext.laid np) (rh.laid np) (RD.newTup rh np (ra.append rb) (by rw [List.length_append]; exact hlen))
    · cases e
  · split at e
    · rename_i e1 e2
      split at e
      · rename_i hz; cases e
        obtain ⟨a, vs, rfl, ha, za, ra⟩ := own_inv rh e1 r1
        obtain ⟨b, ws, rfl, hb, zb, rb⟩ := own_inv rh e2 r2
        have hlen : vs.length + ws.length ≤ sizeLine := by rw [← ra.length, ← rb.length]; exact size_of hz
        exact op_cat pins s σ H _ _ v u Q I rx ry ⟨a, b, vs, ws, rfl, rfl, ha, hb, hlen, fun p np =>
          q _ _ _ (Ext.laid np) (rh.laid np) (RD.newLst rh np (ra.append rb) (by rw [List.length_append]; exact hlen))⟩
      · cases e
    · cases e
theorem ops_sub : OpR X (binaryOp .Sub) (rOp X.K (opBin .sub)) := by
  intro pins s σ H x y v u Q I rx ry ⟨J, h, dx, dy, d, rh, r1, r2, e, q⟩
  simp only [opBin] at e
  split at e
  · cases r1; cases r2; cases e
    exact op_sub pins s σ H _ _ v u Q I rx ry ⟨_, _, rfl, rfl, q _ _ _ Ext.refl rh (.int _)⟩
  · cases e
theorem ops_mul : OpR X (binaryOp .Mult) (rOp X.K (opBin .mul)) := by
  intro pins s σ H x y v u Q I rx ry ⟨J, h, dx, dy, d, rh, r1, r2, e, q⟩
  simp only [opBin] at e
  split at e
  · cases r1; cases r2
    split at e
    · rename_i hz; cases e
      simp only [mulOk, Bool.or_eq_true] at hz
      rcases hz with (hz | hz) | hz
      · exact op_mulW pins s σ H _ _ v u Q I rx ry ⟨_, _, rfl, rfl, (show CMulW _ _ from of_decide_eq_true (p := _ < 1000000) hz), q _ _ _ Ext.refl rh (.int _)⟩
      · exact op_mul pins s σ H _ _ v u Q I rx ry ⟨_, _, rfl, rfl, .inl (of_decide_eq_true hz), q _ _ _ Ext.refl rh (.int _)⟩
      · exact op_mul pins s σ H _ _ v u Q I rx ry ⟨_, _, rfl, rfl, .inr (of_decide_eq_true hz), q _ _ _ Ext.refl rh (.int _)⟩
    · cases e
  · rename_i xs0 j
    split at e
    · rename_i hz; cases e
      obtain ⟨z1, z2, z3, z4⟩ := hz
      cases r2
      obtain ⟨p, ws, rfl, hq, z, rr⟩ := r1.tup_inv
      have hl := rr.length
      refine PVX.op_times pins s σ H _ _ v u Q I rx ry ⟨p, _, ws, rfl, rfl, hq, fun w => z1 (List.eq_nil_of_length_eq_zero (by rw [hl, w]; rfl)), z2, z3, by rw [← hl]; exact z4, fun p np =>
          q _ _ _ (Ext.laid np) (rh.laid np) (RD.newTup rh np (rr.replicate _) ?_)⟩
      have e1 : (List.replicate j.toNat ws).flatten.length = j.toNat * ws.length := by rw [List.length_flatten]; simp
      rw [e1, ← hl, sizeLine_eq]; omega
    · cases e
  · split at e
    · rename_i e1
      split at e
      · rename_i hz
        cases e
        obtain ⟨a, vs, rfl, ha, za, ra⟩ := own_inv rh e1 r1
        cases r2
        obtain ⟨h0, h1, h2⟩ := hz
        have hlen := size_of h2
        rw [ra.length] at hlen
        refine op_rep pins s σ H _ _ v u Q I rx ry ⟨a, _, vs, rfl, rfl, ha, by omega, by omega, hlen, fun p np =>
          q _ _ _ (Ext.laid np) (rh.laid np) (RD.newLst rh np (ra.replicate _) ?_)⟩
        rw [List.length_flatten]; simp; rw [Nat.mul_comm]; exact hlen
      · cases e
    · cases e
  · cases e
theorem ops_fdiv : OpR X (binaryOp .FloorDiv) (rOp X.K (opBin .fdiv)) := by
  intro pins s σ H x y v u Q I rx ry ⟨J, h, dx, dy, d, rh, r1, r2, e, q⟩
  simp only [opBin] at e
  split at e
  · cases r1; cases r2
    split at e
    · rename_i hz; cases e
      exact op_fdivW pins s σ H _ _ v u Q I rx ry ⟨_, _, rfl, rfl, hz, q _ _ _ Ext.refl rh (.int _)⟩
    · cases e
  · cases e
theorem ops_mod : OpR X (binaryOp .Mod) (rOp X.K (opBin .mod)) := by
  intro pins s σ H x y v u Q I rx ry ⟨J, h, dx, dy, d, rh, r1, r2, e, q⟩
  simp only [opBin] at e
  split at e
  · cases r1; cases r2
    split at e
    · rename_i hz; cases e
      exact op_mod pins s σ H _ _ v u Q I rx ry ⟨_, _, rfl, rfl, hz, q _ _ _ Ext.refl rh (.int _)⟩
    · cases e
  · cases e
theorem ops_pow : OpR X (binaryOp .Pow) (rOp X.K (opBin .pow)) := by
  intro pins s σ H x y v u Q I rx ry ⟨J, h, dx, dy, d, rh, r1, r2, e, q⟩
  simp only [opBin] at e
  split at e
  · cases r1; cases r2
    split at e
    · rename_i hz; cases e
      simp only [powOk, Bool.and_eq_true, decide_eq_true_eq] at hz
      exact op_pow pins s σ H _ _ v u Q I rx ry ⟨_, _, rfl, rfl, ⟨hz.1.1, hz.1.2, hz.2⟩, q _ _ _ Ext.refl rh (.int _)⟩
    · cases e
  · cases e

/-! ### comparisons -/
theorem dec_strD {a b : Str} : decide (V.str a = V.str b) = decide (a = b) := decide_eq_decide.mpr ⟨V.str.inj, fun z => by rw [z]⟩
theorem ops_eq (hu : X.A.units + 64 < cLine) : OpR X (compareOp .Eq) (rCmp X.K (opCmp .eq)) := by
  intro pins s σ H x y v u Q I rx ry ⟨J, h, dx, dy, d, rh, r1, r2, e, q⟩
  simp only [opCmp] at e
  unfold opEq at e
  split at e
  · cases r1; cases r2; cases e
    exact op_eq pins s σ H _ _ v u Q I rx ry ⟨rfl, by rw [dec_strD]; exact q⟩
  · split at e
    · rename_i hz; cases e
      obtain ⟨l1, l2, lm⟩ := cok_inv hz
      obtain ⟨as, q1⟩ := Dp.reads I _ x v (res_dp rh l1 r1) rx
      obtain ⟨bs, q2⟩ := Dp.reads I _ y u (res_dp rh l2 r2) ry
      exact SeqAt.compareEq_reads q1 q2 (lay_py _ l1) (lay_py _ l2) (by rw [dep_py _ l1, dep_py _ l2]; omega) ⟨.bl _, H, I, rfl, by rw [eqv_py _ _ l1 l2]; exact q⟩
    · cases e
theorem ops_deq (hu : X.A.units + 64 < cLine) : OpR X (compareOp .Eq) (rCmp X.K (opCmp .deq)) := by
  intro pins s σ H x y v u Q I rx ry ⟨J, h, dx, dy, d, rh, r1, r2, e, q⟩
  simp only [opCmp, opDeq] at e
  split at e
  · rename_i hz; cases e
    obtain ⟨l1, l2, lm⟩ := cok_inv hz
    obtain ⟨as, q1⟩ := Dp.reads I _ x v (all_dp rh 3 _ _ l1 r1) rx
    obtain ⟨bs, q2⟩ := Dp.reads I _ y u (all_dp rh 3 _ _ l2 r2) ry
    exact SeqAt.compareEq_reads q1 q2 (lay_py _ l1) (lay_py _ l2) (by rw [dep_py _ l1, dep_py _ l2]; omega) ⟨.bl _, H, I, rfl, by rw [eqv_py _ _ l1 l2]; exact q⟩
  · cases e
theorem ops_ne (hu : X.A.units + 64 < cLine) : OpR X (compareOp .NotEq) (rCmp X.K (opCmp .ne)) := by
  intro pins s σ H x y v u Q I rx ry ⟨J, h, dx, dy, d, rh, r1, r2, e, q⟩
  simp only [opCmp, Option.map_eq_some_iff] at e
  obtain ⟨d, e, rfl⟩ := e
  unfold opEq at e
  split at e
  · cases r1; cases r2; cases e
    exact op_ne pins s σ H _ _ v u Q I rx ry ⟨rfl, by rw [dec_strD]; exact q⟩
  · split at e
    · rename_i hz; cases e
      obtain ⟨l1, l2, lm⟩ := cok_inv hz
      obtain ⟨as, q1⟩ := Dp.reads I _ x v (res_dp rh l1 r1) rx
      obtain ⟨bs, q2⟩ := Dp.reads I _ y u (res_dp rh l2 r2) ry
      exact SeqAt.compareNe_reads q1 q2 (lay_py _ l1) (lay_py _ l2) (by rw [dep_py _ l1, dep_py _ l2]; omega) ⟨.bl _, H, I, rfl, by rw [eqv_py _ _ l1 l2]; exact q⟩
    · cases e
theorem ops_lt : OpR X (compareOp .Lt) (rCmp X.K (opCmp .lt)) := by
  intro pins s σ H x y v u Q I rx ry ⟨J, h, dx, dy, d, rh, r1, r2, e, q⟩
  simp only [opCmp] at e
  split at e
  · cases r1; cases r2; cases e
    exact op_lt pins s σ H _ _ v u Q I rx ry ⟨_, _, rfl, rfl, q⟩
  · cases e
theorem ops_le : OpR X (compareOp .LtE) (rCmp X.K (opCmp .le)) := by
  intro pins s σ H x y v u Q I rx ry ⟨J, h, dx, dy, d, rh, r1, r2, e, q⟩
  simp only [opCmp] at e
  split at e
  · cases r1; cases r2; cases e
    exact op_le pins s σ H _ _ v u Q I rx ry ⟨_, _, rfl, rfl, q⟩
  · cases e
theorem ops_gt : OpR X (compareOp .Gt) (rCmp X.K (opCmp .gt)) := by
  intro pins s σ H x y v u Q I rx ry ⟨J, h, dx, dy, d, rh, r1, r2, e, q⟩
  simp only [opCmp] at e
  split at e
  · cases r1; cases r2; cases e
    exact op_gt pins s σ H _ _ v u Q I rx ry ⟨_, _, rfl, rfl, q⟩
  · cases e
theorem ops_ge : OpR X (compareOp .GtE) (rCmp X.K (opCmp .ge)) := by
  intro pins s σ H x y v u Q I rx ry ⟨J, h, dx, dy, d, rh, r1, r2, e, q⟩
  simp only [opCmp] at e
  split at e
  · cases r1; cases r2; cases e
    exact op_ge pins s σ H _ _ v u Q I rx ry ⟨_, _, rfl, rfl, q⟩
  · cases e
theorem is_blD {K : PySem.W.Frag} {J : Jn} {H : Hp} {d : D} {x : V} {v : Value} {b : Bool} {M : Model} {A : Around} {E : Value → Shared → Prop} {s : Shared} {Q : Value → Shared → Prop} (r : RD K J H d x) (rx : L2.RelV x v) (h : Q (.bool (d.eqBl b)) s) :
    wpAny M A (compareOp .Is v (.bool b)) Q E s := by
  cases r with
  | non => cases (show v = Value.none from rx); exact wpAny_pure h
  | bl a => cases (show v = Value.bool a from rx); exact is_bool h
  | int i => obtain ⟨t, rfl⟩ := (show ∃ t, v = Value.int i t from rx); exact wpAny_pure h
  | str i => obtain ⟨t, rfl⟩ := (show ∃ t, v = Value.str i t from rx); exact wpAny_pure h
  | tup n m q z r => cases (show v = Value.ref _ from rx); exact wpAny_pure h
  | ktup k z r => cases (show v = Value.ref _ from rx); exact wpAny_pure h
  | lst n m q z r => cases (show v = Value.ref _ from rx); exact wpAny_pure h
  | ref q => cases (show v = Value.ref _ from rx); exact wpAny_pure h
  | fz n m q z r => cases (show v = Value.ref _ from rx); exact wpAny_pure h
  | kfz k z r => cases (show v = Value.ref _ from rx); exact wpAny_pure h
  | ft n m q c d z r => cases (show v = Value.ref _ from rx); exact wpAny_pure h
  | exc n m q => cases (show v = Value.ref _ from rx); exact wpAny_pure h
  | exf n m q n2 m2 q2 r => cases (show v = Value.ref _ from rx); exact wpAny_pure h
theorem isn_blD {K : PySem.W.Frag} {J : Jn} {H : Hp} {d : D} {x : V} {v : Value} {b : Bool} {M : Model} {A : Around} {E : Value → Shared → Prop} {s : Shared} {Q : Value → Shared → Prop} (r : RD K J H d x) (rx : L2.RelV x v) (h : Q (.bool (!d.eqBl b)) s) :
    wpAny M A (compareOp .IsNot v (.bool b)) Q E s := by
  cases r with
  | non => cases (show v = Value.none from rx); exact wpAny_pure h
  | bl a => cases (show v = Value.bool a from rx); cases a <;> cases b <;> exact wpAny_pure h
  | int i => obtain ⟨t, rfl⟩ := (show ∃ t, v = Value.int i t from rx); exact wpAny_pure h
  | str i => obtain ⟨t, rfl⟩ := (show ∃ t, v = Value.str i t from rx); exact wpAny_pure h
  | tup n m q z r => cases (show v = Value.ref _ from rx); exact wpAny_pure h
  | ktup k z r => cases (show v = Value.ref _ from rx); exact wpAny_pure h
  | lst n m q z r => cases (show v = Value.ref _ from rx); exact wpAny_pure h
  | ref q => cases (show v = Value.ref _ from rx); exact wpAny_pure h
  | fz n m q z r => cases (show v = Value.ref _ from rx); exact wpAny_pure h
  | kfz k z r => cases (show v = Value.ref _ from rx); exact wpAny_pure h
  | ft n m q c d z r => cases (show v = Value.ref _ from rx); exact wpAny_pure h
  | exc n m q => cases (show v = Value.ref _ from rx); exact wpAny_pure h
  | exf n m q n2 m2 q2 r => cases (show v = Value.ref _ from rx); exact wpAny_pure h
theorem is_nonD {K : PySem.W.Frag} {J : Jn} {H : Hp} {d : D} {x : V} (r : RD K J H d x) : decide (x = .non) = d.isNon := by
  cases r <;> first | rfl | (exact decide_eq_false (fun z => by cases z))
theorem ops_is : OpR X (compareOp .Is) (rCmp X.K (opCmp .is)) := by
  intro pins s σ H x y v u Q I rx ry ⟨J, h, dx, dy, d, rh, r1, r2, e, q⟩
  simp only [opCmp] at e
  split at e
  · cases r2; cases e
    exact op_isN pins s σ H _ _ v u Q I rx ry ⟨rfl, by rw [is_nonD r1]; exact q⟩
  · cases r2; cases e
    cases (show u = Value.bool _ from ry)
    exact is_blD r1 rx ⟨.bl _, H, I, rfl, q⟩
  · cases e
theorem ops_isn : OpR X (compareOp .IsNot) (rCmp X.K (opCmp .isn)) := by
  intro pins s σ H x y v u Q I rx ry ⟨J, h, dx, dy, d, rh, r1, r2, e, q⟩
  simp only [opCmp] at e
  split at e
  · cases r2; cases e
    exact op_notN pins s σ H _ _ v u Q I rx ry ⟨rfl, by rw [is_nonD r1]; exact q⟩
  · cases r2; cases e
    cases (show u = Value.bool _ from ry)
    exact isn_blD r1 rx ⟨.bl _, H, I, rfl, q⟩
  · cases e
end
end PV
end

section
set_option maxRecDepth 100000
namespace PV
open L2 PySem PySem.Spec PyProof.Rows

section
variable {K : PySem.W.Frag} {J J' : Jn} {H H' : Hp} {h h' : Hh} {d : D} {v : V} {ds : List D} {vs : List V}
/-! ### dicts -/
theorem valD_rel {kvs : List (Key × D)} {kws : List (Key × V)} (r : Paired (fun p q => p.1 = q.1 ∧ RD K J H p.2 q.2) kvs kws) (k : Key) :
    (valD kvs k = none ∧ valV kws k = none) ∨ ∃ d v, valD kvs k = some d ∧ valV kws k = some v ∧ RD K J H d v := by
  induction r with
  | nil => exact (.inl ⟨rfl, rfl⟩)
  | @cons p q ps qs x t ih =>
    by_cases e : p.1 = k
    · refine .inr ⟨p.2, q.2, ?_, ?_, x.2⟩
      · simp [valD, List.find?_cons, e]
      · exact valV_pos (x.1 ▸ e)
    · have e2 : ¬ q.1 = k := by rw [← x.1]; exact e
      rw [valV_neg e2, show valD (p :: ps) k = valD ps k by simp [valD, List.find?_cons, e]]
      exact ih
theorem key_inv {k : Key} (e : d.key = some k) (r : RD K J H d v) : v = kV k := by
  cases d with
  | int i => cases e; cases r; rfl
  | str x => cases e; cases r; rfl
  | _ => cases e
theorem any_py {x : D} : ∀ {ys : List D}, D.lays ys = true → x.lay = true → ((D.pys ys).any fun z => PyData.eqv z x.py) = ys.any fun y => y.eqv x
  | [], _, _ => rfl
  | y :: ys, h, hx => by
    simp only [D.lays, Bool.and_eq_true] at h
    simp only [D.pys, List.any_cons, eqv_py y x h.1 hx, any_py h.2 hx]
end
section
variable {X : Cx}
theorem ops_inCore (hu : X.A.units + 65 < cLine) {pins : List (Addr × Obj)} {s : Shared} {σ : L2.St} {H : Hp} {x y : V} {v u : Value} {b : Bool} {J : Jn} {h : Hh} {dx dy : D} (I : Inv X pins σ H s) (rx : L2.RelV x v) (ry : L2.RelV y u)
    (rh : RH X.K J h H) (r1 : RD X.K J H dx x) (r2 : RD X.K J H dy y) (e : opIn h dx dy = some b) :
    (∀ Q : VK, Q (.bl b) H → wpAny (model X.prog X.w) X.A (compareOp .In v u) (EP X pins σ Q) X.xe s) ∧
    (∀ Q : VK, Q (.bl (!b)) H → wpAny (model X.prog X.w) X.A (compareOp .NotIn v u) (EP X pins σ Q) X.xe s) := by
  have lists : ∀ (p : Addr) (ws : List V) (ys : List D), y = .ref p → SqL X.K H p ws → RDs X.K J H ys ws → (if dx.shp && (D.lst ys).shp then some (ys.any fun z => z.eqv dx) else none) = some b →
      (∀ Q : VK, Q (.bl b) H → wpAny (model X.prog X.w) X.A (compareOp .In v u) (EP X pins σ Q) X.xe s) ∧
      (∀ Q : VK, Q (.bl (!b)) H → wpAny (model X.prog X.w) X.A (compareOp .NotIn v u) (EP X pins σ Q) X.xe s) := by
    intro p ws ys ey hq rr e
    split at e
    · rename_i hz; cases e
      rw [Bool.and_eq_true] at hz
      have l1 := shp_lay hz.1
      have l2 : D.lays ys = true := by have := shp_lay hz.2; simpa only [D.lay] using this
      have sp : SeqAt.shaped (.list (D.pys ys)) = true := by have := shp_py hz.2; simpa only [D.py] using this
      have dl : Dp X.K H y (.list (D.pys ys)) := by rw [ey]; exact .lst hq (RDs.dp ys ws l2 rr)
      constructor
      · intro Q q
        exact op_inD hu pins s σ H x y v u Q I rx ry ⟨dx.py, D.pys ys, RD.dp dx x l1 r1, dl, shp_py hz.1, sp, by rw [any_py l2 l1]; exact q⟩
      · intro Q q
        exact op_notInD hu pins s σ H x y v u Q I rx ry ⟨dx.py, D.pys ys, RD.dp dx x l1 r1, dl, shp_py hz.1, sp, by rw [any_py l2 l1]; exact q⟩
    · cases e
  unfold opIn at e
  split at e
  · split at e
    · rename_i i ys hys
      cases r2 with
      | ref q =>
        obtain ⟨o, w, h1, h2, h3⟩ := rh.at q
        rw [hys] at h1; cases h1
        cases h3 with
        | lst z r => exact lists _ _ _ rfl (.inl (.inl h2)) r e
    · rename_i i kvs hys
      cases r2 with
      | ref q =>
        obtain ⟨o, w, h1, h2, h3⟩ := rh.at q
        rw [hys] at h1; cases h1
        cases h3 with
        | @dct _ kws z r =>
          split at e
          · rename_i k hk; cases e
            obtain rfl := key_inv hk r1
            cases (show u = Value.ref _ from ry)
            have g := DGet.k (k := k) h2
            have eb : (valV kws k).isSome = hasKey k kvs := by
              unfold hasKey
              rcases valD_rel r k with ⟨a, b⟩ | ⟨d, v, a, b, _⟩ <;> rw [a, b] <;> rfl
            rw [← eb]
            exact ⟨fun Q q => d_in (by omega) I g rx fun s' I' => ⟨.bl _, H, I', rfl, q⟩, fun Q q => d_notIn (by omega) I g rx fun s' I' => ⟨.bl _, H, I', rfl, q⟩⟩
          · cases e
    · cases e
  · cases r2 with
    | lst n m q z r => exact lists _ _ _ rfl (.inl (.inl q)) r e
  · obtain ⟨p, ws, ey, hq, z, rr⟩ := r2.tup_inv
    split at e
    · rename_i ys hz; cases e
      rw [Bool.and_eq_true] at hz
      have l1 := shp_lay hz.1
      have l2 : D.lays ys = true := by have := shp_lay hz.2; simpa only [D.lay] using this
      have sp : SeqAt.shaped (.tuple (D.pys ys)) = true := by have := shp_py hz.2; simpa only [D.py] using this
      have dl : Dp X.K H y (.tuple (D.pys ys)) := by rw [ey]; exact .tup hq (RDs.dp ys ws l2 rr)
      obtain ⟨as, q1⟩ := Dp.reads I dx.py x v (RD.dp dx x l1 r1) rx
      obtain ⟨bs, q2⟩ := Dp.reads I (.tuple (D.pys ys)) y u dl ry
      have ll : PyData.canLayAll0 (D.pys ys) = true := lays_pys ys l2
      constructor
      · intro Q q
        exact SeqAt.in_tuple_reads q2 q1 ll (lay_py dx l1) (room_in_shaped (shp_py hz.1) hu) ⟨.bl _, H, I, rfl, by rw [any_py l2 l1]; exact q⟩
      · intro Q q
        exact SeqAt.notIn_tuple_reads q2 q1 ll (lay_py dx l1) (room_in_shaped (shp_py hz.1) hu) ⟨.bl _, H, I, rfl, by rw [any_py l2 l1]; exact q⟩
    · cases e
  · obtain ⟨p, ws, ey, hq, z, rr⟩ := r2.ft_inv
    split at e
    · rename_i ys hz; cases e
      rw [Bool.and_eq_true] at hz
      have l1 := shp_lay hz.1
      have l2 : D.lays ys = true := by have := shp_lay hz.2; simpa only [D.lay] using this
      have sp : SeqAt.shaped (.tuple (D.pys ys)) = true := by have := shp_py hz.2; simpa only [D.py] using this
      have dl : Dp X.K H y (.tuple (D.pys ys)) := by rw [ey]; exact .tup hq (RDs.dp ys ws l2 rr)
      obtain ⟨as, q1⟩ := Dp.reads I dx.py x v (RD.dp dx x l1 r1) rx
      obtain ⟨bs, q2⟩ := Dp.reads I (.tuple (D.pys ys)) y u dl ry
      have ll : PyData.canLayAll0 (D.pys ys) = true := lays_pys ys l2
      constructor
      · intro Q q
        exact SeqAt.in_tuple_reads q2 q1 ll (lay_py dx l1) (room_in_shaped (shp_py hz.1) hu) ⟨.bl _, H, I, rfl, by rw [any_py l2 l1]; exact q⟩
      · intro Q q
        exact SeqAt.notIn_tuple_reads q2 q1 ll (lay_py dx l1) (room_in_shaped (shp_py hz.1) hu) ⟨.bl _, H, I, rfl, by rw [any_py l2 l1]; exact q⟩
    · cases e
  · cases e
theorem ops_in (hu : X.A.units + 65 < cLine) : OpR X (compareOp .In) (rCmp X.K (opCmp .inn)) := by
  intro pins s σ H x y v u Q I rx ry ⟨J, h, dx, dy, d, rh, r1, r2, e, q⟩
  exact (ops_inCore hu I rx ry rh r1 r2 e).1 Q q
theorem ops_nin (hu : X.A.units + 65 < cLine) : OpR X (compareOp .NotIn) (rCmp X.K (opCmp .nin)) := by
  intro pins s σ H x y v u Q I rx ry ⟨J, h, dx, dy, d, rh, r1, r2, e, q⟩
  simp only [opCmp, Option.map_eq_some_iff] at e
  obtain ⟨d, e, rfl⟩ := e
  exact (ops_inCore hu I rx ry rh r1 r2 e).2 Q q

/-! ### subscripts, slices -/
theorem atI_rel {K : PySem.W.Frag} {J : Jn} {H : Hp} {ds : List D} {vs : List V} {i : Int} {d : D} (r : RDs K J H ds vs) (e : atI ds i = some d) : ∃ v, atI vs i = some v ∧ RD K J H d v := by
  unfold atI at e ⊢
  rw [r.length] at e
  cases q : ixN vs.length i with
  | none => (rw [q] at e; cases e)
  | some j => rw [q] at e; exact r.get e
theorem ix_all (hu : X.A.units + 1 < cLine) : IxR X (rOp X.K opIdx) := by
  intro value slice pins s σ H x y v u Q I rx ry ⟨J, h, dx, dy, d, rh, r1, r2, e, q⟩ hs
  have lists : ∀ (p : Addr) (ws : List V) (ys : List D) (i : Int), x = .ref p → y = .int i → SqL X.K H p ws → RDs X.K J H ys ws → atI ys i = some d →
      wpAny (model X.prog X.w) X.A (subscriptTail value slice v u) (EP X pins σ Q) X.xe s := by
    intro p ws ys i ex ey hq rr e
    obtain ⟨w, hw, rw'⟩ := atI_rel rr e
    exact ix_list value slice pins s σ H x y v u Q I rx ry ⟨p, ws, i, w, ex, ey, hq, hw, q _ _ _ Ext.refl rh rw'⟩ hs
  unfold opIdx at e
  split at e
  · cases r2
    obtain ⟨p, ws, ex, hq, z, rr⟩ := r1.tup_inv
    obtain ⟨w, hw, rw'⟩ := atI_rel rr e
    exact ix_tup value slice pins s σ H x _ v u Q I rx ry ⟨p, ws, _, w, ex, rfl, hq, hw, q _ _ _ Ext.refl rh rw'⟩ hs
  · cases r2
    cases r1 with
    | lst n m q1 z r => exact lists _ _ _ _ rfl rfl (.inl (.inl q1)) r e
  · cases r2
    cases r1 with
    | fz n m q1 z r => exact lists _ _ _ _ rfl rfl (.inl (.inr ⟨_, q1⟩)) r e
    | kfz k z r => exact lists _ _ _ _ rfl rfl (.inr k) r e
  · split at e
    · rename_i xs i hxs
      cases r2
      cases r1 with
      | ref q1 =>
        obtain ⟨o, w, h1, h2, h3⟩ := rh.at q1
        rw [hxs] at h1; cases h1
        cases h3 with
        | lst z r => exact lists _ _ _ _ rfl rfl (.inl (.inl h2)) r e
    · rename_i kvs yy hxs
      cases r1 with
      | ref q1 =>
        obtain ⟨o, w, h1, h2, h3⟩ := rh.at q1
        rw [hxs] at h1; cases h1
        cases h3 with
        | @dct _ kws z r =>
          split at e
          · rename_i k hk
            obtain rfl := key_inv hk r2
            rcases valD_rel r k with ⟨a, b⟩ | ⟨d', v', a, b, c⟩
            · rw [a] at e; cases e
            · rw [a] at e; cases e
              cases (show v = Value.ref _ from rx)
              have g := DGet.k (k := k) h2
              rw [b] at g
              exact tail_any (dict_typeIs I g) PySem.F.slot_dict_getitem.lookup (d_getItem hu I g ry fun w' s3 I3 rw' => ⟨v', H, I3, rw', q _ _ _ Ext.refl rh c⟩) hs
          · cases e
    · cases e
  · cases e
def rSl (K : PySem.W.Frag) : V → Option Int → Option Int → Hp → VK → Prop := fun x lo hi H Q => ∃ J h dx d, RH K J h H ∧ RD K J H dx x ∧ opSlc h dx lo hi = some d ∧ ∀ J' H' v, Ext J H J' H' → RH K J' h H' → RD K J' H' d v → Q v H'
theorem cutD_rel {K : PySem.W.Frag} {J : Jn} {H : Hp} {ds : List D} {vs : List V} {lo hi : Option Int} (r : RDs K J H ds vs) : RDs K J H (cutD ds lo hi) (cutV vs lo hi) := by
  unfold cutD cutV
  rw [r.length]
  exact (r.drop _).take _
theorem cutD_whole {ds : List D} {lo hi : Option Int} (e : HT.sIx ds.length 0 lo = 0 ∧ HT.sIx ds.length ds.length hi = ds.length) : cutD ds lo hi = ds := by
  unfold cutD
  rw [e.1, e.2]; simp
theorem sl_all : SlR X (rSl X.K) := by
  intro pins s σ H x v vl vu lo hi sl Q I rx hs pl pu ⟨J, h, dx, d, rh, r1, e, q⟩
  unfold opSlc at e
  split at e
  · cases e
    obtain ⟨p, ws, ex, hq, z, rr⟩ := r1.tup_inv
    refine sl_tupA pins s σ H x v vl vu lo hi sl Q I rx hs pl pu ⟨p, ws, ex, hq, fun hw => ?_, fun _ p' np => ?_⟩
    · refine q _ _ _ Ext.refl rh ?_
      rw [cutD_whole (by rw [rr.length]; exact hw), ← ex]; exact r1
    · exact q _ _ _ (Ext.laid np) (rh.laid np) (RD.newTup rh np (cutD_rel rr) (Nat.le_trans (cutV_length _ _ _) z))
  · split at e
    · rename_i xs e2
      cases e
      obtain ⟨p, ws, ex, hq, z, rr⟩ := res_inv rh e2 r1
      exact sl_list pins s σ H x v vl vu lo hi sl Q I rx hs pl pu ⟨p, ws, ex, hq, fun p' np =>
        q _ _ _ (Ext.laid np) (rh.laid np) (RD.newLst rh np (cutD_rel rr) (Nat.le_trans (cutV_length _ _ _) z))⟩
    · cases e

/-! ### built-in functions -/
def rBf (K : PySem.W.Frag) (f : Hh → List D → Option D) : List V → Hp → VK → Prop := fun xs H Q => ∃ J h ds d, RH K J h H ∧ RDs K J H ds xs ∧ f h ds = some d ∧ ∀ J' H' v, Ext J H J' H' → RH K J' h H' → RD K J' H' d v → Q v H'
theorem one_inv {K : PySem.W.Frag} {J : Jn} {H : Hp} {d : D} {vs : List V} (r : RDs K J H [d] vs) : ∃ v, vs = [v] ∧ RD K J H d v := by
  cases r with | cons a b => cases b; exact ⟨_, rfl, a⟩
theorem two_inv {K : PySem.W.Frag} {J : Jn} {H : Hp} {d e : D} {vs : List V} (r : RDs K J H [d, e] vs) : ∃ v w, vs = [v, w] ∧ RD K J H d v ∧ RD K J H e w := by
  cases r with | cons a b => cases b with | cons b c => cases c; exact ⟨_, _, rfl, a, b⟩
theorem bf_len : CallR X (.builtin "len") (rBf X.K (opBf .len)) := by
  intro pins s σ H xs us Q I r ⟨J, h, ds, d, rh, rs, e0, q⟩
  have seqs : ∀ (p : Addr) (ws : List V) (n : Nat), xs = [.ref p] → (SqL X.K H p ws ∨ SqT X.K H p ws) → ws.length = n → d = .int n → wpAny (model X.prog X.w) X.A (call (.builtin "len") us) (EP X pins σ Q) X.xe s := by
    intro p ws n ex hq en ed
    exact call_len_seq pins s σ H xs us Q I r ⟨p, ws, ex, hq, by rw [en]; exact q _ _ _ Ext.refl rh (by rw [ed]; exact .int _)⟩
  have e : bfLen h ds = some d := e0
  clear e0
  unfold bfLen at e
  split at e
  · cases e
    obtain ⟨w, rfl, r1⟩ := one_inv rs
    obtain ⟨p, ws, ex, hq, z, rr⟩ := r1.tup_inv
    exact seqs p ws _ (by rw [ex]) (.inr hq) rr.length.symm rfl
  · cases e
    obtain ⟨w, rfl, r1⟩ := one_inv rs
    cases r1 with
    | lst n m q1 z rr => exact seqs _ _ _ rfl (.inl (.inl (.inl q1))) rr.length.symm rfl
  · cases e
    obtain ⟨w, rfl, r1⟩ := one_inv rs
    cases r1 with
    | fz n m q1 z rr => exact seqs _ _ _ rfl (.inl (.inl (.inr ⟨_, q1⟩))) rr.length.symm rfl
    | kfz k z rr => exact seqs _ _ _ rfl (.inl (.inr k)) rr.length.symm rfl
  · cases e
    obtain ⟨w, rfl, r1⟩ := one_inv rs
    cases r1 with
    | ft n m q1 c d z rr => exact seqs _ _ _ rfl (.inr (.inl (.inr ⟨_, q1⟩))) rr.length.symm rfl
  · obtain ⟨w, rfl, r1⟩ := one_inv rs
    split at e
    · rename_i hz; cases e; cases r1
      exact call_len_str pins s σ H _ us Q I r ⟨_, rfl, hz, q _ _ _ Ext.refl rh (.int _)⟩
    · cases e
  · obtain ⟨w, rfl, r1⟩ := one_inv rs
    cases r1 with
    | ref q1 =>
      obtain ⟨o, w, h1, h2, h3⟩ := rh.at q1
      rw [h1] at e
      cases h3 with
      | lst z rr => cases e; exact seqs _ _ _ rfl (.inl (.inl (.inl h2))) rr.length.symm rfl
      | tb _ _ => cases e
      | dct z rr =>
        cases e
        refine call_lenD pins s σ H _ us Q I r ⟨_, _, rfl, h2, ?_⟩
        rw [← Paired.length rr]
        exact q _ _ _ Ext.refl rh (.int _)
  · cases e
theorem bf_int : CallR X (.type "int") (rBf X.K (opBf .int)) := by
  intro pins s σ H xs us Q I r ⟨J, h, ds, d, rh, rs, e0, q⟩
  have e : bfInt ds = some d := e0
  clear e0
  unfold bfInt at e
  split at e
  · cases e
    obtain ⟨w, rfl, r1⟩ := one_inv rs; cases r1
    exact call_int1 pins s σ H _ us Q I r (.inl ⟨_, rfl, q _ _ _ Ext.refl rh (.int _)⟩)
  · cases e
    obtain ⟨w, rfl, r1⟩ := one_inv rs; cases r1
    exact call_int1 pins s σ H _ us Q I r (.inr ⟨_, rfl, q _ _ _ Ext.refl rh (.int _)⟩)
  · cases e
theorem bf_abs : CallR X (.builtin "abs") (rBf X.K (opBf .abs)) := by
  intro pins s σ H xs us Q I r ⟨J, h, ds, d, rh, rs, e0, q⟩
  have e : bfAbs ds = some d := e0
  clear e0
  unfold bfAbs at e
  split at e
  · cases e
    obtain ⟨w, rfl, r1⟩ := one_inv rs; cases r1
    exact call_abs pins s σ H _ us Q I r ⟨_, rfl, q _ _ _ Ext.refl rh (.int _)⟩
  · cases e
theorem seq_cases {K : PySem.W.Frag} {J : Jn} {H : Hp} {h : Hh} {d : D} {ds : List D} {v : V} (rh : RH K J h H) (hf : ∀ ys, d ≠ .ftup ys) (e : d.seq h = some ds) (r : RD K J H d v) :
    d = .tup ds ∨ ∃ a vs, v = .ref a ∧ SqL K H a vs ∧ vs.length ≤ sizeLine ∧ RDs K J H ds vs := by
  cases d with
  | ftup xs => exact (hf xs rfl).elim
  | tup xs => cases e; exact .inl rfl
  | lst xs => exact .inr (res_inv rh (by cases e; rfl) r)
  | fz xs => exact .inr (res_inv rh (by cases e; rfl) r)
  | ref i => exact .inr (res_inv rh (by
      simp only [D.seq] at e
      split at e
      · rename_i q; cases e; simp only [D.res, q]
      · cases e) r)
  | _ => cases e
theorem bf_tuple : CallR X (.type "tuple") (rBf X.K (opBf .tuple)) := by
  intro pins s σ H xs us Q I r ⟨J, h, ds, d, rh, rs, e0, q⟩
  have e : bfTuple h ds = some d := e0
  clear e0
  unfold bfTuple at e
  split at e
  · cases e
  · rename_i x0 hx0
    obtain ⟨w, rfl, r1⟩ := one_inv rs
    simp only [Option.map_eq_some_iff] at e
    obtain ⟨ys, e1, rfl⟩ := e
    rcases seq_cases rh (fun ys z => hx0 ys (by rw [z])) e1 r1 with rfl | ⟨p, ws, rfl, hq, z, rr⟩
    · obtain ⟨p, ws, rfl, hq, z, rr⟩ := r1.tup_inv
      exact call_tuple_of pins s σ H _ us Q I r ⟨p, ws, rfl, .inr ⟨hq, q _ _ _ Ext.refl rh r1⟩⟩
    · exact call_tuple_of pins s σ H _ us Q I r ⟨p, ws, rfl, .inl ⟨hq, fun l nl => q _ _ _ (Ext.laid nl) (rh.laid nl) (RD.newTup rh nl rr z)⟩⟩
  · cases e
theorem bf_max (hc : X.calm = true) : CallR X (.builtin "max") (rBf X.K (opBf .max2)) := by
  intro pins s σ H xs us Q I r ⟨J, h, ds, d, rh, rs, e0, q⟩
  have e : bfMax ds = some d := e0
  clear e0
  unfold bfMax at e
  split at e
  · cases e
    obtain ⟨w, w2, rfl, r1, r2⟩ := two_inv rs; cases r1; cases r2
    exact call_max2 hc pins s σ H _ us Q I r ⟨_, _, rfl, q _ _ _ Ext.refl rh (.int _)⟩
  · cases e
theorem bf_min (hc : X.calm = true) : CallR X (.builtin "min") (rBf X.K (opBf .min2)) := by
  intro pins s σ H xs us Q I r ⟨J, h, ds, d, rh, rs, e0, q⟩
  have e : bfMin ds = some d := e0
  clear e0
  unfold bfMin at e
  split at e
  · cases e
    obtain ⟨w, w2, rfl, r1, r2⟩ := two_inv rs; cases r1; cases r2
    exact call_min2 hc pins s σ H _ us Q I r ⟨_, _, rfl, q _ _ _ Ext.refl rh (.int _)⟩
  · cases e
theorem ints_rel {K : PySem.W.Frag} {J : Jn} {H : Hp} : ∀ {ds : List D} {vs : List V} {ns : List Int}, RDs K J H ds vs → D.ints ds = some ns → vs = ns.map V.int
  | _, _, _, .nil, e => by cases e; rfl
  | _, _, _, .cons r t, e => by
    cases r <;> simp only [D.ints] at e <;> try (cases e; done)
    simp only [Option.map_eq_some_iff] at e
    obtain ⟨ms, e, rfl⟩ := e
    rw [ints_rel t e]; rfl
theorem bls_rel {K : PySem.W.Frag} {J : Jn} {H : Hp} : ∀ {ds : List D} {vs : List V} {ns : List Bool}, RDs K J H ds vs → D.bls ds = some ns → vs = ns.map V.bl
  | _, _, _, .nil, e => by cases e; rfl
  | _, _, _, .cons r t, e => by
    cases r <;> simp only [D.bls] at e <;> try (cases e; done)
    simp only [Option.map_eq_some_iff] at e
    obtain ⟨ms, e, rfl⟩ := e
    rw [bls_rel t e]; rfl
theorem lstOf_inv {d : D} {ds : List D} (e : d.lstOf = some ds) : d = .lst ds := by
  cases d <;> cases e; rfl
theorem bf_sum (hc : X.calm = true) : CallR X (.builtin "sum") (rBf X.K (opBf .sum)) := by
  intro pins s σ H xs us Q I r ⟨J, h, ds, d, rh, rs, e0, q⟩
  have e : bfSum h ds = some d := e0
  clear e0
  unfold bfSum at e
  split at e
  · obtain ⟨w, rfl, r1⟩ := one_inv rs
    simp only [Option.map_eq_some_iff, Option.bind_eq_some_iff] at e
    obtain ⟨ns, ⟨ys, e1, e2⟩, rfl⟩ := e
    obtain ⟨p, ws, rfl, hq, z, rr⟩ := res_inv rh (lstOf_inv e1) r1
    obtain rfl := ints_rel rr e2
    exact cr_sum hc pins s σ H _ us Q I r ⟨p, ns, rfl, hq, q _ _ _ Ext.refl rh (.int _)⟩
  · cases e
theorem bf_all (hc : X.calm = true) : CallR X (.builtin "all") (rBf X.K (opBf .all)) := by
  intro pins s σ H xs us Q I r ⟨J, h, ds, d, rh, rs, e0, q⟩
  have e : bfAll h ds = some d := e0
  clear e0
  unfold bfAll at e
  split at e
  · obtain ⟨w, rfl, r1⟩ := one_inv rs
    simp only [Option.map_eq_some_iff, Option.bind_eq_some_iff] at e
    obtain ⟨ns, ⟨ys, e1, e2⟩, rfl⟩ := e
    obtain ⟨p, ws, rfl, hq, z, rr⟩ := res_inv rh (lstOf_inv e1) r1
    obtain rfl := bls_rel rr e2
    exact cr_all hc pins s σ H _ us Q I r ⟨p, ns, rfl, hq, q _ _ _ Ext.refl rh (.bl _)⟩
  · cases e
theorem bf_any (hc : X.calm = true) : CallR X (.builtin "any") (rBf X.K (opBf .any)) := by
  intro pins s σ H xs us Q I r ⟨J, h, ds, d, rh, rs, e0, q⟩
  have e : bfAny h ds = some d := e0
  clear e0
  unfold bfAny at e
  split at e
  · obtain ⟨w, rfl, r1⟩ := one_inv rs
    simp only [Option.map_eq_some_iff, Option.bind_eq_some_iff] at e
    obtain ⟨ns, ⟨ys, e1, e2⟩, rfl⟩ := e
    obtain ⟨p, ws, rfl, hq, z, rr⟩ := res_inv rh (lstOf_inv e1) r1
    obtain rfl := bls_rel rr e2
    exact cr_any hc pins s σ H _ us Q I r ⟨p, ns, rfl, hq, q _ _ _ Ext.refl rh (.bl _)⟩
  · cases e
/-- repr of plain data -/
theorem bf_repr (hu : X.A.units + 200 < cLine) (hg : X.A.guards = some []) : CallR X (.builtin "repr") (rBf X.K (opBf .repr)) := by
  intro pins s σ H xs us Q I r ⟨J, h, ds, d, rh, rs, e0, q⟩
  have e : bfRepr h ds = some d := e0
  clear e0
  unfold bfRepr at e
  split at e
  · rename_i x
    obtain ⟨w, rfl, r1⟩ := one_inv rs
    unfold reprD at e
    split at e
    · rename_i hc
      cases e
      (simp only [Bool.and_eq_true, decide_eq_true_eq] at hc)
      obtain ⟨⟨h2, h3⟩, h4⟩ := hc
      have hl : (x.res h).lay = true := by simp only [D.shp, Bool.and_eq_true] at h2; exact h2.1
      have hd : (x.res h).dep ≤ 64 := by simp only [D.shp, Bool.and_eq_true, decide_eq_true_eq] at h2; exact h2.2
      have dp := res_dp rh hl r1
      have seq : ∀ a, w = .ref a → wpAny (model X.prog X.w) X.A (call (.builtin "repr") us) (EP X pins σ Q) X.xe s := by
        rintro u rfl
        obtain rfl := Vals.ref1 r
        obtain ⟨as, rd⟩ := Dp.reads I _ _ (.ref u) dp rfl
        exact repr_of_reads' rd h3 (PyData.noDict_hsm (PyData.hasDict_of_canLay _ (lay_py _ hl))) hg (by rw [dep_py _ hl]; omega) (fun _ _ z => z) (fun h' t tk hk => ⟨.str _, H, I.kept hk, ⟨_, rfl⟩, q _ _ _ Ext.refl rh (.str _)⟩) h4
      obtain ⟨u, rfl, ru⟩ : ∃ u, us = [u] ∧ L2.RelV w u := by
        cases r with | cons p t => cases t; exact ⟨_, rfl, p⟩
      have q2 := q _ _ _ Ext.refl rh (.str _)
      generalize x.res h = y at dp h3 h4 hl q2
      cases y with
      | tup ys => simp only [D.py] at dp; cases dp; exact seq _ rfl
      | lst ys => simp only [D.py] at dp; cases dp; exact seq _ rfl
      | non =>
        simp only [D.py] at dp; cases dp
        cases ru
        exact PySem.P.repr_of_none ⟨.str _, H, I.tok _, ⟨_, rfl⟩, q2⟩
      | bl b =>
        simp only [D.py] at dp; cases dp
        cases ru
        exact PySem.P.repr_of_bool ⟨.str _, H, I.tok _, ⟨_, rfl⟩, q2⟩
      | int i =>
        simp only [D.py] at dp; cases dp
        obtain ⟨t, rfl⟩ := ru
        simp only [D.py, PyData.showable, decide_eq_true_eq] at h3
        exact PySem.P.repr_of_int h3 ⟨.str _, H, I.tok _, ⟨_, rfl⟩, q2⟩
      | str z =>
        simp only [D.py] at dp; cases dp
        obtain ⟨t, rfl⟩ := ru
        exact PySem.P.repr_of_str ⟨.str _, H, I.tok _, ⟨_, rfl⟩, q2⟩ h4
      | _ => cases hl
    · cases e
  · cases e
/-! sorted -/
theorem insI_perm (x : Int) : ∀ l : List Int, (insI x l).Perm (x :: l)
  | [] => .refl _
  | y :: r => by
    unfold insI; split
    · exact .refl _
    · exact ((insI_perm x r).cons y).trans (.swap x y r)
theorem srtI_perm : ∀ l : List Int, (srtI l).Perm l
  | [] => .refl _
  | x :: r => (insI_perm x (srtI r)).trans ((srtI_perm r).cons x)
theorem insI_srt (x : Int) : ∀ {l : List Int}, l.Pairwise (· ≤ ·) → (insI x l).Pairwise (· ≤ ·)
  | [], _ => by simp [insI]
  | y :: r, h => by
    (obtain ⟨h1, h2⟩ := List.pairwise_cons.mp h)
    unfold insI; split
    · rename_i le
      exact List.pairwise_cons.mpr ⟨fun z hz => (List.mem_cons.mp hz).elim (fun e => by rw [e]; exact le) fun hz => Int.le_trans le (h1 z hz), h⟩
    · rename_i le
      refine List.pairwise_cons.mpr ⟨fun z hz => ?_, insI_srt x h2⟩
      rcases List.mem_cons.mp ((insI_perm x r).mem_iff.mp hz) with e | hz
      · omega
      · exact h1 z hz
theorem srtI_srt : ∀ l : List Int, (srtI l).Pairwise (· ≤ ·)
  | [] => .nil
  | x :: r => insI_srt x (srtI_srt r)
theorem srtI_eq {l m : List Int} (p : m.Perm l) (s : m.Pairwise (· ≤ ·)) : m = srtI l :=
  List.Perm.eq_of_pairwise (fun _ _ _ _ => Int.le_antisymm) s (srtI_srt l) (p.trans (srtI_perm l).symm)
def leS (x y : Str) : Prop := PySem.Spec.ltCps y.cps.toList x.cps.toList = false
theorem leS_iff {x y : Str} : leS x y ↔ ¬ y.cps.toList < x.cps.toList := by
  unfold leS
  rw [ltCps_eq, decide_eq_false_iff_not]
theorem leS_trans {x y z : Str} (a : leS x y) (b : leS y z) : leS x z := by
  rw [leS_iff] at *
  exact List.le_trans (l₁ := x.cps.toList) a b
theorem leS_total {x y : Str} (a : ¬ leS x y) : leS y x := by
  rw [leS_iff] at *
  exact List.lt_asymm (Decidable.not_not.mp a)
theorem leS_anti {x y : Str} (a : leS x y) (b : leS y x) : x = y := by
  rw [leS_iff] at *
  have e : x.cps.toList = y.cps.toList := List.le_antisymm a b
  cases x; cases y
  simp only [Array.toList_inj] at e
  rw [e]
theorem insS_perm (x : Str) : ∀ l : List Str, (insS x l).Perm (x :: l)
  | [] => .refl _
  | y :: r => by
    unfold insS; split
    · exact ((insS_perm x r).cons y).trans (.swap x y r)
    · exact .refl _
theorem srtS_perm : ∀ l : List Str, (srtS l).Perm l
  | [] => .refl _
  | x :: r => (insS_perm x (srtS r)).trans ((srtS_perm r).cons x)
theorem insS_srt (x : Str) : ∀ {l : List Str}, l.Pairwise leS → (insS x l).Pairwise leS
  | [], _ => by simp [insS]
  | y :: r, h => by
    (obtain ⟨h1, h2⟩ := List.pairwise_cons.mp h)
    unfold insS; split
    · rename_i lt
      refine List.pairwise_cons.mpr ⟨fun z hz => ?_, insS_srt x h2⟩
      rcases List.mem_cons.mp ((insS_perm x r).mem_iff.mp hz) with e | hz
      · rw [e]; exact leS_total (by unfold leS; rw [lt]; exact Bool.noConfusion)
      · exact h1 z hz
    · rename_i nlt
      have le : leS x y := by simpa [leS] using nlt
      exact List.pairwise_cons.mpr ⟨fun z hz => (List.mem_cons.mp hz).elim (fun e => by rw [e]; exact le) fun hz => leS_trans le (h1 z hz), h⟩
theorem srtS_srt : ∀ l : List Str, (srtS l).Pairwise leS
  | [] => .nil
  | x :: r => insS_srt x (srtS_srt r)
theorem srt_of_rising : ∀ (p : Str) (l : List Str), risingS p l = true → (p :: l).Pairwise leS
  | p, [], _ => by simp
  | p, x :: r, h => by
    simp only [risingS, Bool.and_eq_true, Bool.not_eq_true'] at h
    have ih := srt_of_rising x r h.2
    have px : leS p x := h.1
    refine List.pairwise_cons.mpr ⟨fun z hz => ?_, ih⟩
    (rcases List.mem_cons.mp hz with e | hz)
    · rw [e]; exact px
    · exact leS_trans px ((List.pairwise_cons.mp ih).1 z hz)
theorem srtS_eq {l m : List Str} (p : m.Perm l) (s : sortedS m = true) : m = srtS l := by
  have s2 : m.Pairwise leS := by
    cases m with
    | nil => exact .nil
    | cons x r => exact srt_of_rising x r s
  exact List.Perm.eq_of_pairwise (fun _ _ _ _ => leS_anti) s2 (srtS_srt l) (p.trans (srtS_perm l).symm)
theorem insD_mem (x : Int) : ∀ {l : List Int} {z : Int}, z ∈ insD x l ↔ z = x ∨ z ∈ l
  | [], z => by simp [insD]
  | y :: r, z => by
    unfold insD; split
    · simp
    · split
      · rename_i e; subst e; simp
      · simp only [List.mem_cons, insD_mem x]; exact or_left_comm
theorem srtD_mem : ∀ {l : List Int} {z : Int}, z ∈ srtD l ↔ z ∈ l
  | [], z => by simp [srtD]
  | x :: r, z => by
    show z ∈ insD x (srtD r) ↔ _
    rw [insD_mem, srtD_mem, List.mem_cons]
theorem insD_srt (x : Int) : ∀ {l : List Int}, l.Pairwise (· < ·) → (insD x l).Pairwise (· < ·)
  | [], _ => by simp [insD]
  | y :: r, h => by
    (obtain ⟨h1, h2⟩ := List.pairwise_cons.mp h)
    unfold insD; split
    · rename_i lt
      exact List.pairwise_cons.mpr ⟨fun z hz => (List.mem_cons.mp hz).elim (fun e => by rw [e]; exact lt) fun hz => Int.lt_trans lt (h1 z hz), h⟩
    · split
      · exact h
      · refine List.pairwise_cons.mpr ⟨fun z hz => ?_, insD_srt x h2⟩
        rcases (insD_mem x).mp hz with e | hz
        · omega
        · exact h1 z hz
theorem srtD_srt : ∀ l : List Int, (srtD l).Pairwise (· < ·)
  | [] => .nil
  | x :: r => insD_srt x (srtD_srt r)
theorem srtD_eq {l m : List Int} (s : m.Pairwise (· < ·)) (e : ∀ z, z ∈ m ↔ z ∈ l) : m = srtD l := by
  have nd : ∀ {k : List Int}, k.Pairwise (· < ·) → k.Nodup := fun h => h.imp fun h => Int.ne_of_lt h
  refine List.Perm.eq_of_pairwise (le := (· < ·)) (fun a b _ _ h1 h2 => (Int.lt_asymm h1 h2).elim) s (srtD_srt l) ?_
  exact (List.perm_ext_iff_of_nodup (nd s) (nd (srtD_srt l))).mpr fun z => by rw [e, srtD_mem]
theorem strs_rel {K : PySem.W.Frag} {J : Jn} {H : Hp} : ∀ {ds : List D} {vs : List V} {ns : List Str}, RDs K J H ds vs → D.strs ds = some ns → vs = ns.map V.str
  | _, _, _, .nil, e => by cases e; rfl
  | _, _, _, .cons r t, e => by
    cases r <;> simp only [D.strs] at e <;> try (cases e; done)
    simp only [Option.map_eq_some_iff] at e
    obtain ⟨ms, e, rfl⟩ := e
    rw [strs_rel t e]; rfl
theorem rds_ints {K : PySem.W.Frag} {J : Jn} {H : Hp} : ∀ ns : List Int, RDs K J H (ns.map D.int) (ns.map V.int)
  | [] => .nil
  | n :: ns => .cons (.int n) (rds_ints ns)
theorem rds_strs {K : PySem.W.Frag} {J : Jn} {H : Hp} : ∀ ns : List Str, RDs K J H (ns.map D.str) (ns.map V.str)
  | [] => .nil
  | n :: ns => .cons (.str n) (rds_strs ns)
theorem seq_both {K : PySem.W.Frag} {J : Jn} {H : Hp} {h : Hh} {d : D} {ds : List D} {v : V} (rh : RH K J h H) (hf : ∀ ys, d ≠ .ftup ys) (e : d.seq h = some ds) (r : RD K J H d v) :
    ∃ a vs, v = .ref a ∧ (SqL K H a vs ∨ SqT K H a vs) ∧ RDs K J H ds vs := by
  rcases seq_cases rh hf e r with rfl | ⟨p, ws, rfl, hq, z, rr⟩
  · obtain ⟨p, ws, rfl, hq, z, rr⟩ := r.tup_inv
    exact ⟨p, ws, rfl, .inr hq, rr⟩
  · exact ⟨p, ws, rfl, .inl hq, rr⟩
theorem keyInts_rel {K : PySem.W.Frag} {J : Jn} {H : Hp} : ∀ {kvs : List (Key × D)} {kws : List (Key × V)} {ns : List Int}, Paired (fun p q => p.1 = q.1 ∧ RD K J H p.2 q.2) kvs kws → keyInts kvs = some ns → kws.map (·.1) = ns.map Sum.inl
  | _, _, _, .nil, e => by cases e; rfl
  | (p1, p2) :: ps, q :: qs, ns, .cons x t, e => by
    cases p1 with
    | inl i =>
      simp only [keyInts, Option.map_eq_some_iff] at e
      obtain ⟨ms, e, rfl⟩ := e
      rw [List.map_cons, keyInts_rel t e, ← x.1]; rfl
    | inr i => simp [keyInts] at e
/-- the items sorted -/
theorem srt_do {pins : List (Addr × Obj)} {s : Shared} {σ : L2.St} {H : Hp} {us : List Value} {Q : VK} {J : Jn} {h : Hh} {any : Bool} {ys : List D} {ws : List V} {d : D} {p : Addr} (I : Inv X pins σ H s) (r : Vals [V.ref p] us) (rh : RH X.K J h H)
    (hq : SqL X.K H p ws ∨ (any = false ∧ SqT X.K H p ws)) (hz : ws.length ≤ sizeLine) (rr : RDs X.K J H ys ws) (e : srtItems any ys = some d) (q : ∀ J' H' v, Ext J H J' H' → RH X.K J' h H' → RD X.K J' H' d v → Q v H') :
    wpAny (model X.prog X.w) X.A (call (.builtin "sorted") us) (EP X pins σ Q) X.xe s := by
  unfold srtItems at e
  split at e
  · rename_i ns hi
    obtain rfl := ints_rel rr hi
    rw [List.length_map] at hz
    split at e
    · rename_i h64
      cases e
      have fin : ∀ (ns2 : List Int) (p2 : Addr), ns2.Perm ns → ns2.Pairwise (· ≤ ·) → H p2 = none → Q (.ref p2) (upd H p2 (.lst (ns2.map V.int))) := fun ns2 p2 a1 a2 np => by
        rw [srtI_eq a1 a2]
        refine q _ _ _ (Ext.laid np) (rh.laid np) (RD.newLst rh np (rds_ints _) ?_)
        rw [List.length_map, (srtI_perm ns).length_eq]; exact hz
      rcases hq with hq | ⟨ha, hq⟩
      · exact cr_sortedI pins s σ H _ us Q I r ⟨p, ns, rfl, hq, fin⟩
      · subst ha
        simp only [Bool.false_or, decide_eq_true_eq] at h64
        exact PVX.cr_srtI pins s σ H _ us Q I r ⟨p, ns, rfl, .inr hq, h64, fin⟩
    · cases e
  · split at e
    · rename_i ns hi
      obtain rfl := strs_rel rr hi
      split at e
      · rename_i h64
        cases e
        refine PVX.cr_srtS pins s σ H _ us Q I r ⟨p, ns, rfl, hq.elim .inl (fun z => .inr z.2), h64, fun ns2 p2 a1 a2 np => ?_⟩
        rw [srtS_eq a1 a2]
        refine q _ _ _ (Ext.laid np) (rh.laid np) (RD.newLst rh np (rds_strs _) ?_)
        rw [List.length_map, (srtS_perm ns).length_eq]; exact small64 h64
      · cases e
    · cases e
theorem bf_sorted (hc : X.calm = true) : CallR X (.builtin "sorted") (rBf X.K (opBf .sorted)) := by
  intro pins s σ H xs us Q I r ⟨J, h, ds, d, rh, rs, e0, q⟩
  have e : bfSorted h ds = some d := e0
  clear e0
  unfold bfSorted at e
  split at e
  · cases e
  · obtain ⟨w, rfl, r1⟩ := one_inv rs
    obtain ⟨p, ws, rfl, hq, z, rr⟩ := r1.tup_inv
    exact srt_do I r rh (.inr ⟨rfl, hq⟩) z rr e q
  · obtain ⟨w, rfl, r1⟩ := one_inv rs
    obtain ⟨p, ws, rfl, hq, z, rr⟩ := res_inv rh rfl r1
    exact srt_do I r rh (.inl hq) z rr e q
  · obtain ⟨w, rfl, r1⟩ := one_inv rs
    obtain ⟨p, ws, rfl, hq, z, rr⟩ := res_inv rh rfl r1
    exact srt_do I r rh (.inl hq) z rr e q
  · obtain ⟨w, rfl, r1⟩ := one_inv rs
    cases r1 with
    | @ref i a q1 =>
      obtain ⟨o, w, h1, h2, h3⟩ := rh.at q1
      simp only [h1] at e
      cases h3 with
      | lst z rr => exact srt_do I r rh (.inl (.inl (.inl h2))) z rr e q
      | tb _ _ => cases e
      | @dct kvs kws z rr =>
        simp only [Option.bind_eq_some_iff] at e
        obtain ⟨ns, e1, e2⟩ := e
        split at e2
        · rename_i h64
          cases e2
          refine call_sortedDI hc pins s σ H _ us Q I r ⟨a, kws, ns, rfl, .inl h2, keyInts_rel rr e1, h64, fun ns2 p2 a1 a2 np => ?_⟩
          rw [srtI_eq a1 a2]
          refine q _ _ _ (Ext.laid np) (rh.laid np) (RD.newLst rh np (rds_ints _) ?_)
          rw [List.length_map, (srtI_perm ns).length_eq]; exact small64 h64
        · cases e2
  · cases e
theorem bf_minD (hc : X.calm = true) : CallR X (.builtin "min") (rBf X.K (opBf .minD)) := by
  intro pins s σ H xs us Q I r ⟨J, h, ds, d, rh, rs, e0, q⟩
  have e : bfMinD h ds = some d := e0
  clear e0
  unfold bfMinD at e
  split at e
  · obtain ⟨w, rfl, r1⟩ := one_inv rs
    cases r1 with
    | @ref i a q1 =>
      obtain ⟨o, w, h1, h2, h3⟩ := rh.at q1
      simp only [h1] at e
      cases h3 with
      | lst z rr => cases e
      | tb _ _ => cases e
      | @dct kvs kws z rr =>
        simp only [Option.bind_eq_some_iff, Option.map_eq_some_iff] at e
        obtain ⟨ns, e1, m, e2, rfl⟩ := e
        have ps := srtI_perm ns
        have so := srtI_srt ns
        cases hq : srtI ns with
        | nil => rw [hq] at e2; cases e2
        | cons y ys =>
          rw [hq] at e2 ps so
          cases e2
          refine cr_minK hc pins s σ H _ us Q I r ⟨a, kws, ns, rfl, h2, keyInts_rel rr e1, fun z => ?_, fun m2 hm hle => ?_⟩
          · rw [z] at ps; exact absurd ps.length_eq (by simp)
          · have a1 : m2 ≤ m := hle _ (ps.mem_iff.mp List.mem_cons_self)
            have a2 : m ≤ m2 := by
              rcases List.mem_cons.mp (ps.mem_iff.mpr hm) with w | w
              · omega
              · exact (List.pairwise_cons.mp so).1 _ w
            obtain rfl : m2 = m := by omega
            exact q _ _ _ Ext.refl rh (.int _)
  · cases e
/-- list(x): a new list -/
theorem bf_list : CallR X (.type "list") (fun xs H Q => ∃ J h ds d, RH X.K J h H ∧ RDs X.K J H ds xs ∧ bfList h ds = some d ∧ ∀ p ys vs, d = .lst ys → H p = none → vs.length ≤ sizeLine → RDs X.K J H ys vs → Q (.ref p) (upd H p (.lst vs))) := by
  intro pins s σ H xs us Q I r ⟨J, h, ds, d, rh, rs, e, q⟩
  unfold bfList at e
  split at e
  · obtain ⟨w, rfl, r1⟩ := one_inv rs
    simp only [Option.map_eq_some_iff] at e
    obtain ⟨ys, e, rfl⟩ := e
    obtain ⟨p, ws, rfl, hq, z, rr⟩ := seq_inv rh e r1
    exact call_list_of pins s σ H _ us Q I r ⟨p, ws, rfl, hq, fun l nl => q l _ _ rfl nl z rr⟩
  · cases e

/-! ### isinstance -/
def Ty.nm : Ty → String
  | .int => "int" | .str => "str" | .tup => "tuple" | .lst => "list" | .bl => "bool" | .dct => "dict" | .non => "NoneType"
def D.tyn (h : Hh) : D → String
  | .ftup _ => "tuple" | .exc _ => "NoneType" | .exf _ _ _ => "NoneType" | .non => "NoneType" | .bl _ => "bool" | .int _ => "int" | .str _ => "str" | .tup _ => "tuple" | .lst _ => "list" | .fz _ => "list"
  | .ref i => match h[i]? with
    | some (.dct _) => "dict"
    | _ => "list"
theorem tyx_of {K : PySem.W.Frag} {J : Jn} {H : Hp} {h : Hh} {d : D} {v : V} (rh : RH K J h H) (hf : d.isO h = false) (r : RD K J H d v) : TyX K H v (.type (d.tyn h)) := by
  cases r with
  | ft n m q c d z r => cases hf
  | exc n m q => cases hf
  | exf n m q n2 m2 q2 r => cases hf
  | non => exact .base .non
  | bl b => exact .base (.bl b)
  | int i => exact .base (.int i)
  | str x => exact .base (.str x)
  | tup n m q z r => exact .base (.tup q)
  | ktup k z r => obtain ⟨o, its, n, k1, k2, _⟩ := k; exact .kTuple k1 k2
  | lst n m q z r => exact .base (.lst q)
  | fz n m q z r => exact .base (.frz q)
  | kfz k z r => obtain ⟨o, its, n, k1, k2, _⟩ := k; exact .kList k1 k2
  | ref q =>
    obtain ⟨o, u, h1, h2, h3⟩ := rh.at q
    simp only [D.tyn, h1]
    cases h3 with
    | lst z r => exact .base (.lst h2)
    | dct z r => exact .base (.dK h2)
    | tb _ _ => simp [D.isO, D.isF, D.isTb, h1] at hf
theorem isi_kit : ∀ (t : Ty) (n : String), n ∈ ["NoneType", "bool", "int", "str", "tuple", "list", "dict"] → kitB n t.nm = some (decide (n = t.nm) || (decide (n = "bool") && decide (t.nm = "int"))) := by
  intro t n hn
  simp only [List.mem_cons, List.not_mem_nil, or_false] at hn
  cases t <;> rcases hn with rfl | rfl | rfl | rfl | rfl | rfl | rfl <;> decide +kernel
theorem isi_ops {t : Ty} : CallR X (.builtin "isinstance") (fun xs H Q => ∃ J h d v, RH X.K J h H ∧ d.isO h = false ∧ RD X.K J H d v ∧ xs = [v, .ty t.nm] ∧ Q (.bl (opIsi t h d)) H) := by
  intro pins s σ H xs us Q I r ⟨J, h, d, v, rh, hf, r1, ex, q⟩
  have hn : d.tyn h ∈ ["NoneType", "bool", "int", "str", "tuple", "list", "dict"] := by
    cases d <;> simp only [D.tyn] <;> try decide
    split <;> decide
  have e := isi_kit t _ hn
  have e2 : (decide (d.tyn h = t.nm) || (decide (d.tyn h = "bool") && decide (t.nm = "int"))) = opIsi t h d := by
    cases r1 with
    | ref q1 =>
      obtain ⟨o, w, h1, h2, h3⟩ := rh.at q1
      cases o with
      | tb _ _ => simp [D.isO, D.isF, D.isTb, h1] at hf
      | _ => cases t <;> simp [opIsi, D.tyn, h1, Ty.nm]
    | ft => cases hf
    | exc => cases hf
    | exf => cases hf
    | _ => cases t <;> simp [opIsi, D.tyn, Ty.nm]
  rw [e2] at e
  exact call_isi pins s σ H xs us Q I r ⟨v, .ty t.nm, .type (d.tyn h), .type t.nm, _, ex, .ty _, tyx_of rh hf r1, kit_ty e, q⟩

/-! ### methods -/
def rMt (K : PySem.W.Frag) (m : Mt) : V → List V → Hp → VK → Prop := fun x xs H Q => ∃ J h dx ds d h', RH K J h H ∧ RD K J H dx x ∧ RDs K J H ds xs ∧ mthOp m dx ds h = .ok d h' ∧ ∀ J' H' v, Ext J H J' H' → RH K J' h' H' → RD K J' H' d v → Q v H'
theorem RH.writeL {K : PySem.W.Frag} {J : Jn} {h : Hh} {H : Hp} {i : Nat} {a : Addr} {ds : List D} {vs : List V} (rh : RH K J h H) (q : J.l[i]? = some a) (z : vs.length ≤ sizeLine) (r : RDs K J H ds vs) : RH K J (h.set i (.lst ds)) (upd H a (.lst vs)) :=
  rh.write q (.lst z (r.ext (Ext.write q)))
theorem mt_lst {K : PySem.W.Frag} {J : Jn} {h : Hh} {H : Hp} {m : Mt} {x : V} {dx d : D} {ds : List D} {h' : Hh} (rh : RH K J h H) (r1 : RD K J H dx x) (e : mthOp m dx ds h = .ok d h') :
    ∃ i a ys ws ys', x = .ref a ∧ J.l[i]? = some a ∧ H a = some (.lst ws) ∧ ws.length ≤ sizeLine ∧ RDs K J H ys ws ∧ mtL m ys ds = some (d, ys') ∧ h' = h.set i (.lst ys') := by
  cases r1 with
  | ref q1 =>
    obtain ⟨o, w, h1, h2, h3⟩ := rh.at q1
    simp only [mthOp, mthRef, h1] at e
    cases h3 with
    | lst z rr =>
      dsimp only at e
      split at e
      · rename_i p hp; cases e; exact ⟨_, _, _, _, _, rfl, q1, h2, z, rr, hp, rfl⟩
      · cases e
    | dct z rr => cases e
    | tb _ _ => cases e
  | _ => cases e
theorem mt_appendD : MtR X "list.append" (rMt X.K .append) := by
  intro pins s σ H x xs v us Q I rx rs ⟨J, h, dx, ds, d, h', rh, r1, r2, e, q⟩
  obtain ⟨i, a, ys, ws, ys', rfl, q1, h2, z, rr, e1, rfl⟩ := mt_lst rh r1 e
  have e2 : mtAppend ys ds = some (d, ys') := e1
  unfold mtAppend at e2
  split at e2
  · split at e2
    · rename_i hz; cases e2
      obtain ⟨y, rfl, ry⟩ := one_inv r2
      have hs : ws.length + 1 ≤ sizeLine := by rw [← rr.length]; exact size_of hz
      exact mt_append pins s σ H _ _ v us Q I rx rs ⟨_, ws, y, rfl, rfl, h2, hs, q _ _ _ (Ext.write q1) (rh.writeL q1 (by rw [List.length_append]; exact hs) (rr.append (.cons ry .nil))) .non⟩
    · cases e2
  · cases e2
theorem mt_popD : MtR X "list.pop" (fun x xs H Q => rMt X.K .pop x xs H Q ∨ rMt X.K .popAt x xs H Q) := by
  intro pins s σ H x xs v us Q I rx rs hw
  rcases hw with ⟨J, h, dx, ds, d, h', rh, r1, r2, e, q⟩ | ⟨J, h, dx, ds, d, h', rh, r1, r2, e, q⟩
  · obtain ⟨i, a, ys, ws, ys', rfl, q1, h2, z, rr, e1, rfl⟩ := mt_lst rh r1 e
    have e2 : mtPop ys ds = some (d, ys') := e1
    unfold mtPop at e2
    split at e2
    · simp only [Option.map_eq_some_iff] at e2
      obtain ⟨y, hy, e3⟩ := e2
      cases e3
      rw [rr.length] at hy
      obtain ⟨w, hw, rw'⟩ := rr.get hy
      cases r2
      exact mt_pop pins s σ H _ _ v us Q I rx rs ⟨_, ws, w, rfl, rfl, h2, hw, q _ _ _ (Ext.write q1) (rh.writeL q1 (by rw [List.length_dropLast]; omega) rr.dropLast) (rw'.ext (Ext.write q1))⟩
    · cases e2
  · obtain ⟨i, a, ys, ws, ys', rfl, q1, h2, z, rr, e1, rfl⟩ := mt_lst rh r1 e
    have e2 : mtPopAt ys ds = some (d, ys') := e1
    unfold mtPopAt at e2
    split at e2
    · simp only [Option.map_eq_some_iff, Option.bind_eq_some_iff] at e2
      obtain ⟨j, hk, y, hy, e3⟩ := e2
      cases e3
      rw [rr.length] at hk
      obtain ⟨w, hw, rw'⟩ := rr.get hy
      obtain ⟨s1, s2, s3, s4⟩ := ixN_seq hk
      obtain ⟨y2, rfl, ry⟩ := one_inv r2
      cases ry
      have hs := sizeLine_eq
      refine mt_popAt pins s σ H _ _ v us Q I rx rs ⟨_, ws, _, j, w, rfl, rfl, h2, by omega, by omega, s1, hw, q _ _ _ (Ext.write q1) (rh.writeL q1 ?_ (rr.eraseIdx _)) (rw'.ext (Ext.write q1))⟩
      have := List.length_eraseIdx_le ws j
      omega
    · cases e2
end
end PV
end

section
set_option maxRecDepth 100000
namespace PV
open L2 PySem PySem.Spec PyProof.Rows

/-! ### the text's forms -/
def asName : Expr → Option Str
  | .Name x _ => some x
  | _ => none
def asCon : Expr → Option Const
  | .Constant k _ _ => some k
  | _ => none
def asTup : Expr → Option (List Expr)
  | .Tuple xs _ _ => some xs
  | _ => none
def asLst : Expr → Option (List Expr)
  | .List xs _ => some xs
  | _ => none
def asBin : Expr → Option (Expr × Operator × Expr)
  | .BinOp a o b _ => some (a, o, b)
  | _ => none
def asUn : Expr → Option (UnaryOp × Expr)
  | .UnaryOp o a _ => some (o, a)
  | _ => none
def asCmp1 : Expr → Option (Expr × CmpOp × Expr)
  | .Compare a [o] [b] _ => some (a, o, b)
  | _ => none
def asCmp2 : Expr → Option (Expr × CmpOp × CmpOp × Expr × Expr)
  | .Compare a [o, p] [b, c] _ => some (a, o, p, b, c)
  | _ => none
def asBool : Expr → Option (BoolOp × Expr × List Expr)
  | .BoolOp o (a :: es) _ => some (o, a, es)
  | _ => none
def asIf : Expr → Option (Expr × Expr × Expr)
  | .IfExp c a b _ => some (c, a, b)
  | _ => none
def asSub : Expr → Option (Expr × Expr)
  | .Subscript a i _ => some (a, i)
  | _ => none
def asSlc : Expr → Option (Option Expr × Option Expr)
  | .Slice lo hi none _ => some (lo, hi)
  | _ => none
def asCall : Expr → Option (Str × List Expr)
  | .Call (.Name x _) es [] _ => some (x, es)
  | _ => none
def asMth : Expr → Option (Expr × Str × List Expr)
  | .Call (.Attribute o m apos) es [] cpos => if apos.endLine == cpos.line then some (o, m, es) else none
  | _ => none
def asLc : Expr → Option (Expr × Expr × Expr × List Expr × Scope)
  | .ListComp elt [⟨tg, iter, ifs, a⟩] scope _ => if a = 0 then some (elt, tg, iter, ifs, scope) else none
  | _ => none
def asDic0 : Expr → Bool
  | .Dict [] [] _ => true
  | _ => false
def asIsi : Expr → Option (Str × Expr × Str)
  | .Call (.Name f _) [a, .Name ty _] [] _ => some (f, a, ty)
  | _ => none
def asTenum : Expr → Option (Str × Str × Expr)
  | .Call (.Name f _) [.Call (.Name g _) [a] [] _] [] _ => some (f, g, a)
  | _ => none
def asCallK : Expr → Option (Str × List Expr × List Keyword)
  | .Call (.Name x _) es kws _ => some (x, es, kws)
  | _ => none
/-- not a star, a set display or a slice -/
def plainX : Expr → Bool
  | .Starred .. => false
  | .Set .. => false
  | .Slice .. => false
  | _ => true
section
variable {e : Expr}
theorem asName_eq {x : Str} (h : asName e = some x) : ∃ p, e = .Name x p := by cases e <;> simp [asName] at h; exact ⟨_, by rw [h]⟩
theorem asCon_eq {x : Const} (h : asCon e = some x) : ∃ k p, e = .Constant x k p := by cases e <;> simp [asCon] at h; exact ⟨_, _, by rw [h]⟩
theorem asTup_eq {x : List Expr} (h : asTup e = some x) : ∃ k p, e = .Tuple x k p := by cases e <;> simp [asTup] at h; exact ⟨_, _, by rw [h]⟩
theorem asLst_eq {x : List Expr} (h : asLst e = some x) : ∃ p, e = .List x p := by cases e <;> simp [asLst] at h; exact ⟨_, by rw [h]⟩
theorem asBin_eq {a b : Expr} {o : Operator} (h : asBin e = some (a, o, b)) : ∃ p, e = .BinOp a o b p := by
  cases e <;> simp [asBin] at h; obtain ⟨rfl, rfl, rfl⟩ := h; exact ⟨_, rfl⟩
theorem asUn_eq {a : Expr} {o : UnaryOp} (h : asUn e = some (o, a)) : ∃ p, e = .UnaryOp o a p := by
  cases e <;> simp [asUn] at h; obtain ⟨rfl, rfl⟩ := h; exact ⟨_, rfl⟩
theorem asCmp1_eq {a b : Expr} {o : CmpOp} (h : asCmp1 e = some (a, o, b)) : ∃ p, e = .Compare a [o] [b] p := by
  unfold asCmp1 at h
  split at h
  · cases h; exact ⟨_, rfl⟩
  · cases h
theorem asCmp2_eq {a b c : Expr} {o p : CmpOp} (h : asCmp2 e = some (a, o, p, b, c)) : ∃ q, e = .Compare a [o, p] [b, c] q := by
  unfold asCmp2 at h
  split at h
  · cases h; exact ⟨_, rfl⟩
  · cases h
theorem asBool_eq {a : Expr} {o : BoolOp} {es : List Expr} (h : asBool e = some (o, a, es)) : ∃ p, e = .BoolOp o (a :: es) p := by
  unfold asBool at h
  split at h
  · cases h; exact ⟨_, rfl⟩
  · cases h
theorem asIf_eq {a b c : Expr} (h : asIf e = some (c, a, b)) : ∃ p, e = .IfExp c a b p := by
  cases e <;> simp [asIf] at h; obtain ⟨rfl, rfl, rfl⟩ := h; exact ⟨_, rfl⟩
theorem asSub_eq {a i : Expr} (h : asSub e = some (a, i)) : ∃ p, e = .Subscript a i p := by
  cases e <;> simp [asSub] at h; obtain ⟨rfl, rfl⟩ := h; exact ⟨_, rfl⟩
theorem asSlc_eq {lo hi : Option Expr} (h : asSlc e = some (lo, hi)) : ∃ p, e = .Slice lo hi none p := by
  unfold asSlc at h
  split at h
  · cases h; exact ⟨_, rfl⟩
  · cases h
theorem asCall_eq {x : Str} {es : List Expr} (h : asCall e = some (x, es)) : ∃ p q, e = .Call (.Name x p) es [] q := by
  unfold asCall at h
  split at h
  · cases h; exact ⟨_, _, rfl⟩
  · cases h
theorem asMth_eq {o : Expr} {m : Str} {es : List Expr} (h : asMth e = some (o, m, es)) : ∃ p q, e = .Call (.Attribute o m p) es [] q ∧ (p.endLine == q.line) = true := by
  unfold asMth at h
  split at h
  · split at h
    · rename_i hl; cases h; exact ⟨_, _, rfl, hl⟩
    · cases h
  · cases h
theorem asLc_eq {elt tg iter : Expr} {ifs : List Expr} {scope : Scope} (h : asLc e = some (elt, tg, iter, ifs, scope)) : ∃ p, e = .ListComp elt [⟨tg, iter, ifs, 0⟩] scope p := by
  unfold asLc at h
  split at h
  · split at h
    · rename_i ha; cases h; subst ha; exact ⟨_, rfl⟩
    · cases h
  · cases h
theorem asDic0_eq (h : asDic0 e = true) : ∃ p, e = .Dict [] [] p := by
  unfold asDic0 at h
  split at h
  · exact ⟨_, rfl⟩
  · cases h
theorem asIsi_eq {f ty : Str} {a : Expr} (h : asIsi e = some (f, a, ty)) : ∃ p q r, e = .Call (.Name f p) [a, .Name ty q] [] r := by
  unfold asIsi at h
  split at h
  · cases h; exact ⟨_, _, _, rfl⟩
  · cases h
theorem asTenum_eq {f g : Str} {a : Expr} (h : asTenum e = some (f, g, a)) : ∃ p q r s, e = .Call (.Name f p) [.Call (.Name g q) [a] [] r] [] s := by
  unfold asTenum at h
  split at h
  · cases h; exact ⟨_, _, _, _, rfl⟩
  · cases h
theorem asCallK_eq {x : Str} {es : List Expr} {kws : List Keyword} (h : asCallK e = some (x, es, kws)) : ∃ p q, e = .Call (.Name x p) es kws q := by
  unfold asCallK at h
  split at h
  · cases h; exact ⟨_, _, rfl⟩
  · cases h
theorem plain_star (h : plainX e = true) (es : List Expr) (env : PySem.Env) : starEach (e :: es) env = (false, eval e env) :: starEach es env := by
  cases e <;> first | rfl | simp [plainX] at h
theorem plain_mark (h : plainX e = true) (o : CmpOp) : behindInMarks o e = false := by cases e <;> first | rfl | simp [plainX] at h
theorem plain_fold (h : plainX e = true) (env : PySem.Env) (x : Value) : foldedSetIterable e env x = pure x := by cases e <;> first | rfl | simp [plainX] at h
theorem plain_ix (h : plainX e = true) : PlainIx e := by intro o i; cases e <;> first | rfl | simp [plainX] at h
end
end PV
end

section
set_option maxRecDepth 100000
namespace PV
open L2 PySem PySem.Spec PyProof.Rows

/-! ### what is known of the place where a piece stands -/
structure Cs where
  N : List Str
  sc : Scope
  fn : Str → Bool
  bs : List Str
  T : List Fn
  gn : List Str
  /-- exception classes that are made -/
  xs : List Str
  xm : Xm
  /-- exception classes with an own __init__, which keeps its argument: (class, field) -/
  xg : List (Str × Str)
  /-- within an except suite; the defs that may be called there -/
  hot : Bool
  qt : List Nat
  /-- the name of the def's lambdas, "" of none -/
  lq : Str
/-- what is known of exception classes -/
structure XF (K : PySem.W.Frag) (mg : Str → Option Value) (q : Xm) : Prop where
  m : ∀ x y b, (x, y, b) ∈ q.m → ∃ C C', mg x = some (.ref C) ∧ mg y = some (.ref C') ∧ PySem.W.exmOne K (.ref C) (.ref C') = some b
  g : ∀ x y b, (x, y, b) ∈ q.m → mg x = some (.ref (He.ga K x))
  i : ∀ x y b, (x, y, b) ∈ q.i → ∃ C', mg y = some (.ref C') ∧ ExcC K (He.ga K x) ∧ PySem.W.kitOne K (.ref (He.ga K x)) (.ref C') = some b
  f : ∀ x g, (x, g) ∈ q.f → XfC K (He.ga K x) ∧ PySem.W.findIn K (.ref (He.ga K x)) g = some none
  v : ∀ x ∈ q.v, ExcC K (He.ga K x) ∧ PySem.W.kitOne K (.ref (He.ga K x)) (.type "ValueError") = some true
/-- what is known of the exception classes that keep their argument -/
def GtOk (P : Program) (K : PySem.W.Frag) (mg : Str → Option Value) (xg : List (Str × Str)) : Prop := ∀ p ∈ xg, mg p.1 = some (.ref (He.ga K p.1)) ∧ GA.Gate P K (He.ga K p.1) p.2 ∧ XfC K (He.ga K p.1) ∧ PySem.W.findIn K (.ref (He.ga K p.1)) p.2 = some none
def spF (K : PySem.W.Frag) (mg : Str → Option Value) (F : Fns) (f : Nat) (n : Nat) : Sp := fun vs H Q E => vs.length = n ∧ ∃ J h ds, RDs K J H ds vs ∧ RH K J h H ∧ PostX K mg E J H (rD K) (F f ds h) Q
/-- how a call with keywords binds -/
structure KwOk (K : PySem.W.Frag) (fd : FuncData) (ps : List Str) (n : Nat) (ks : List Str) (pm : List Nat) : Prop where
  to : ∀ (s : Shared) (us ws : List Value), K.In s.heap → us.length = n → ws.length = ks.length → BindsTo s fd ⟨us, ks.zip ws⟩ (ps.zip (pmD .none pm us ws))
  len : pm.length = ps.length
/-- what a def promises where no repr is under way -/
structure FnG (P : Program) (w : World) (K : PySem.W.Frag) (mg : Str → Option Value) (base : Heap) (k : Nat) (f : Addr) (fd : FuncData) (ps : List Str) (sp : Sp) : Prop where
  len : ∀ vs H Q E, (sp vs H Q E → vs.length = ps.length)
  go : ∀ {A : Around} {out : List PySem.Env} {s : Shared} {H : Hp} {args : Args} {us : List Value} {vs : List V} {Q : VK} {E : XK}, Room k A → A.guards = some [] → Env0 P w K mg base A out s H → BindsTo s fd args (ps.zip us) → Vals vs us → sp vs H Q E →
    codeAny (model P w) A (.call (.ref f) args) (CR (L2N.CX P w) out P w H s Q E) s
structure CallOk (T : List Fn) (F : Fns) (X : Cx) : Prop where
  ok : ∃ k, Room k X.A ∧ X.A.guards = some [] ∧ ∀ (f : Nat) (fn : Fn), T[f]? = some fn → ∃ a fd, X.mg fn.name = some (.ref a) ∧ PySem.W.keepIn X.K (.ref a) = true ∧ FnG X.prog X.w X.K X.mg X.base k a fd fn.P (spF X.K X.mg F f fn.P.length) ∧ Binds X.K fd fn.P [] ∧ ∀ q ∈ fn.kw, KwOk X.K fd fn.P q.1 q.2.1 q.2.2
/-- what a def promises within an except suite: it raises nothing there -/
structure FnQ (P : Program) (w : World) (K : PySem.W.Frag) (mg : Str → Option Value) (base : Heap) (k : Nat) (f : Addr) (fd : FuncData) (ps : List Str) (sp : Sp) : Prop where
  len : ∀ vs H Q E, (sp vs H Q E → vs.length = ps.length)
  go : ∀ {A : Around} {out : List PySem.Env} {s : Shared} {H : Hp} {args : Args} {us : List Value} {vs : List V} {Q : VK}, L2H.RoomH k A → A.guards = some [] → Env0 P w K mg base A out s H → BindsTo s fd args (ps.zip us) → Vals vs us → sp vs H Q E0 →
    codeAny (model P w) A (.call (.ref f) args) (CR (L2N.CX P w) out P w H s Q E0) s
structure QOk (T : List Fn) (qt : List Nat) (F : Fns) (X : Cx) : Prop where
  ok : ∃ k, L2H.RoomH k X.A ∧ X.A.guards = some [] ∧ ∀ (f : Nat) (fn : Fn), f ∈ qt → T[f]? = some fn → ∃ a fd, X.mg fn.name = some (.ref a) ∧ PySem.W.keepIn X.K (.ref a) = true ∧ FnQ X.prog X.w X.K X.mg X.base k a fd fn.P (spF X.K X.mg F f fn.P.length) ∧ Binds X.K fd fn.P []
structure Ok (c : Cs) (F : Fns) (G : List D) (X : Cx) : Prop where
  hN : X.N = c.N
  nd : X.N.Nodup
  sc : X.env.scope = c.sc
  fn : X.fn = c.fn
  calm : c.hot = false → X.calm = true
  call : c.hot = false → CallOk c.T F X
  quiet : QOk c.T c.qt F X
  blt : ∀ x ∈ c.bs, X.mg x = none
  glo : ∀ (i : Nat) (x : Str) (d : D), c.gn[i]? = some x → G[i]? = some d → ∃ v u, X.mg x = some u ∧ L2.RelV v u ∧ ∀ J H, RD X.K J H d v
  exc : ∀ x ∈ c.xs, ∃ C, X.mg x = some (.ref C) ∧ PySem.W.excIn X.K C He.veBase "ValueError.__new__" = true ∧ PySem.W.keepIn X.K (.ref C) = true ∧ Raises X (.ref C)
  exm : XF X.K X.mg c.xm
  gate : GtOk X.prog X.K X.mg c.xg
  lam : c.lq ≠ "" → ∃ (P : Nat) (cA : Addr), G.getLast? = some (.int P) ∧ LamX.TabB X.base X.mg cA P ∧ X.env.code = .ref cA ∧ X.env.qual ++ "<lambda>" = c.lq
/-- not within a suite -/
def coolO {α : Type} (c : Cs) (o : Option α) : Option α := if c.hot then none else o
theorem coolO_eq {α : Type} {c : Cs} {o : Option α} {a : α} (h : coolO c o = some a) : c.hot = false ∧ o = some a := by
  unfold coolO at h
  split at h
  · cases h
  · rename_i q
    exact ⟨by simpa using q, h⟩
/-- an exception class that the text names -/
def Cs.xn (c : Cs) (k : Str) : Bool := decide (k ∈ c.xs) || c.xg.any fun p => decide (p.1 = k)
theorem xn_ok {c : Cs} {F : Fns} {G : List D} {X : Cx} (o : Ok c F G X) {k : Str} (h : c.xn k = true) : ∃ C, X.mg k = some (.ref C) := by
  rcases Bool.or_eq_true_iff.mp h with q | q
  · obtain ⟨C, m, _⟩ := o.exc k (of_decide_eq_true q)
    exact ⟨C, m⟩
  · obtain ⟨p, hp, e⟩ := List.any_eq_true.mp q
    have e := of_decide_eq_true e
    subst e
    exact ⟨_, (o.gate p hp).1⟩
def Cs.vis (c : Cs) (i : Nat) (x : Str) : Bool :=
  decide (c.N[i]? = some x) && (match c.sc.names.lookup x with | some .local => true | some .cell => true | some .free => true | _ => false) && !(x == ("__debug__" : Str)) && !(x == ("__classdict__" : Str))
def Cs.loc (c : Cs) (i : Nat) (x : Str) : Bool :=
  decide (c.N[i]? = some x) && (match c.sc.names.lookup x with | some .local => true | some .cell => c.fn x | _ => false)
def Cs.glb (c : Cs) (x : Str) : Bool :=
  (match c.sc.names.lookup x with | some .globalImplicit => true | _ => false) && !(x == ("__debug__" : Str))
section
variable {c : Cs} {F : Fns} {G : List D} {X : Cx}
theorem Ok.units (o : Ok c F G X) : X.A.units + 200 < cLine := by
  obtain ⟨k, hr, _, _⟩ := o.quiet.ok
  have := hr.un; omega
theorem Ok.guards (o : Ok c F G X) : X.A.guards = some [] := by
  obtain ⟨k, _, h, _⟩ := o.quiet.ok
  exact h
theorem vis_ok (o : Ok c F G X) {i : Nat} {x : Str} (h : c.vis i x = true) : X.N[i]? = some x ∧ Vis X.env.scope x ∧ (x == ("__debug__" : Str)) = false ∧ (x == ("__classdict__" : Str)) = false := by
  simp only [Cs.vis, Bool.and_eq_true, decide_eq_true_eq, Bool.not_eq_true'] at h
  (obtain ⟨⟨⟨h1, h2⟩, h3⟩, h4⟩ := h)
  refine ⟨by rw [o.hN]; exact h1, ?_, h3, h4⟩
  unfold Vis
  rw [o.sc]
  split at h2
  · exact .inl (by assumption)
  · exact .inr (.inl (by assumption))
  · exact .inr (.inr (by assumption))
  · cases h2
theorem loc_ok (o : Ok c F G X) {i : Nat} {x : Str} (h : c.loc i x = true) : X.N[i]? = some x ∧ L2.Loc X.env.scope x ∧ (X.fn x = true ∨ X.env.scope.names.lookup x = some .local) := by
  simp only [Cs.loc, Bool.and_eq_true, decide_eq_true_eq] at h
  obtain ⟨h1, h2⟩ := h
  refine ⟨by rw [o.hN]; exact h1, ?_, ?_⟩
  · unfold L2.Loc
    rw [o.sc]
    split at h2
    · exact .inl (by assumption)
    · exact .inr (by assumption)
    · cases h2
  · rw [o.sc, o.fn]
    split at h2
    · exact .inr (by assumption)
    · exact .inl h2
    · cases h2
theorem glb_ok (o : Ok c F G X) {x : Str} (h : c.glb x = true) : Gl X x ∧ (x == ("__debug__" : Str)) = false := by
  simp only [Cs.glb, Bool.and_eq_true, Bool.not_eq_true'] at h
  refine ⟨?_, h.2⟩
  have h1 := h.1
  unfold Gl PySem.Env.kindOf
  rw [o.sc]
  split at h1
  · assumption
  · cases h1
end

/-! ### what a piece's proof gives -/
structure SE (X : Cx) (e : Expr) (p : P) : Prop where
  v : PE X e (tG X.K (rD X.K) p.v)
  t : PT X e (tG X.K rB p.t)
structure SEs (X : Cx) (es : List Expr) (p : PL) : Prop where
  l : PA X es (tG X.K (rDs X.K) p.l)
  nil : p.nil = es.isEmpty
  kw : ∀ kws : List Keyword, kws.map (·.value) = es → PK X kws (tG X.K (rDs X.K) p.l)
  an : ∀ pos, PE X (.BoolOp .And es pos) (tG X.K (rD X.K) p.an)
  on : ∀ pos, PE X (.BoolOp .Or es pos) (tG X.K (rD X.K) p.on)
  at_ : ∀ pos, PW X (.BoolOp .And es pos) (tG X.K rB p.at_)
  ot : ∀ pos, PW X (.BoolOp .Or es pos) (tG X.K rB p.ot)
section
variable {X : Cx} {e x a b : Expr} {p pa pb pc : P} {pos : Pos}
theorem tru_rel {K : PySem.W.Frag} {J : Jn} {h : Hh} {H : Hp} {d : D} {v : V} {b : Bool} (rh : RH K J h H) (r : RD K J H d v) (e : d.tru h = some b) : TruV K v H b := by
  cases d with
  | non => cases r; cases e; rfl
  | bl c => cases r; cases e; rfl
  | int i => cases r; cases e; rfl
  | str y =>
    cases r
    simp only [D.tru] at e
    split at e
    · rename_i hz; cases e; exact ⟨hz, rfl⟩
    · cases e
  | ftup xs => cases e
  | exc c => cases e
  | exf c f d => cases e
  | tup xs =>
    cases e
    obtain ⟨a, vs, rfl, hq, z, rr⟩ := r.tup_inv
    refine .inr (.inl ⟨vs, hq, ?_⟩)
    cases rr <;> rfl
  | lst xs =>
    cases e
    obtain ⟨a, vs, rfl, hq, z, rr⟩ := res_inv rh rfl r
    refine .inl ⟨vs, hq, ?_⟩
    cases rr <;> rfl
  | fz xs =>
    cases e
    obtain ⟨a, vs, rfl, hq, z, rr⟩ := res_inv rh rfl r
    refine .inl ⟨vs, hq, ?_⟩
    cases rr <;> rfl
  | ref i =>
    cases r with
    | ref q =>
      obtain ⟨o, u, h1, h2, h3⟩ := rh.at q
      simp only [D.tru, h1] at e
      cases h3 with
      | lst z rr => cases e; refine .inl ⟨_, .inl (.inl h2), ?_⟩; cases rr <;> rfl
      | dct z rr => cases e; refine .inr (.inr ⟨_, h2, ?_⟩); cases rr <;> rfl
      | tb _ _ => cases e
/-- an expression whose test is its value's truth -/
theorem SE.plain {v : Env → Hh → R D} (hv : PE X x (tG X.K (rD X.K) v)) (he : ∀ whole, isTrue x X.env whole = (do let v ← whole; standAt x.pos; holding [v] (truthy v))) : SE X x (.plain v) := by
  refine ⟨hv, (pt_truth hv he).imp fun σ H Q ⟨ρ, h, J, re, rh, q⟩ => ?_⟩
  refine (Post.step (R1 := rD X.K) (f := v) re rh q).mono fun y H1 ⟨J1, h1, d, e1, re1, rh1, rd, q1⟩ => ?_
  obtain ⟨b, hb, q2⟩ := Post.opt rh1 q1
  exact ⟨b, tru_rel rh1 rd hb, q2 b rfl⟩
theorem SE.ofB {v : Env → Hh → R D} {t : Env → Hh → R Bool} (hv : PE X x (tG X.K (rD X.K) v)) (ht : PT X x (tG X.K rB t)) : SE X x ⟨v, t⟩ := ⟨hv, ht⟩

theorem se_var {i : Nat} {y : Str} {c : Cs} {F : Fns} {G : List D} (o : Ok c F G X) (h : c.vis i y = true) : SE X (.Name y pos) (evE F G (.var i)) := by
  obtain ⟨h1, h2, h3, h4⟩ := vis_ok o h
  refine SE.plain ((pe_var h1 h2 h3 h4).imp fun σ H Q ⟨ρ, hh, J, re, rh, q⟩ => ?_) (fun _ => rfl)
  cases e : ρ[i]? with
  | none => simp only [e] at q; exact False.elim q
  | some od =>
    cases od with
    | none => simp only [e] at q; exact False.elim q
    | some d =>
      simp only [e] at q
      obtain ⟨v, hv, rd⟩ := re.get i d e
      exact ⟨v, hv, q J H v Ext.refl rh rd⟩
def conM : D → Const → Bool
  | .non, .none => true
  | .bl a, .bool b => a == b
  | .int i, .int j => decide (i = j)
  | .str a, .str b => decide (a = b)
  | _, _ => false
theorem se_con {d : D} {k : Const} {n : Nat} {F : Fns} {G : List D} (h : conM d k = true) : SE X (.Constant k n pos) (evE F G (.con d)) := by
  refine SE.plain ?_ (fun _ => rfl)
  unfold conM at h
  split at h
  · exact pe_non.imp fun σ H Q ⟨ρ, hh, J, re, rh, q⟩ => q J H _ Ext.refl rh .non
  · have := beq_iff_eq.mp h; subst this
    exact pe_bl.imp fun σ H Q ⟨ρ, hh, J, re, rh, q⟩ => q J H _ Ext.refl rh (.bl _)
  · have := of_decide_eq_true h; subst this
    exact pe_int.imp fun σ H Q ⟨ρ, hh, J, re, rh, q⟩ => q J H _ Ext.refl rh (.int _)
  · have := of_decide_eq_true h; subst this
    exact pe_str.imp fun σ H Q ⟨ρ, hh, J, re, rh, q⟩ => q J H _ Ext.refl rh (.str _)
  · cases h
theorem se_glo {i : Nat} {y : Str} {c : Cs} {F : Fns} {G : List D} (o : Ok c F G X) (h : c.gn[i]? = some y) (hg : c.glb y = true) : SE X (.Name y pos) (evE F G (.glo i)) := by
  obtain ⟨h1, h2⟩ := glb_ok o hg
  refine SE.plain ?_ (fun _ => rfl)
  cases e : G[i]? with
  | none => exact ⟨fun pins s σ H Q I ⟨ρ, hh, J, re, rh, q⟩ => by exact False.elim q⟩
  | some d =>
    obtain ⟨v, u, hm, rv, rd⟩ := o.glo i y d h e
    exact (pe_glob h1 hm rv h2).imp fun σ H Q ⟨ρ, hh, J, re, rh, q⟩ => by
      exact q J H v Ext.refl rh (rd J H)

/-! ### operators -/
theorem se_bin' {op : Operator} {f : Hh → D → D → Option D} (ho : OpR X (binaryOp op) (rOp X.K f)) (ha : SE X a pa) (hb : SE X b pb) :
    SE X (.BinOp a op b pos) (.plain fun ρ h => (pa.v ρ h).bind fun x h1 => (pb.v ρ h1).bind fun y h2 => R.opt (f h2 x y) h2) := by
  refine SE.plain ((pe_op ho ha.v hb.v).imp fun σ H Q ⟨ρ, h, J, re, rh, q⟩ => ?_) (fun _ => rfl)
  refine (Post.step (R1 := rD X.K) (f := pa.v) re rh q).mono fun x H1 ⟨J1, h1, dx, e1, re1, rh1, rx, q1⟩ => ?_
  refine (Post.step (R1 := rD X.K) (f := pb.v) re1 rh1 q1).mono fun y H2 ⟨J2, h2, dy, e2, re2, rh2, ry, q2⟩ => ?_
  obtain ⟨d, hd, q3⟩ := Post.optX q2
  exact ⟨J2, h2, dx, dy, d, rh2, rx.ext e2, ry, hd, q3⟩
def bopM : BOp → Operator → Bool
  | .add, .Add => true
  | .sub, .Sub => true
  | .mul, .Mult => true
  | .fdiv, .FloorDiv => true
  | .mod, .Mod => true
  | .pow, .Pow => true
  | _, _ => false
theorem bopM_ok {o : BOp} {p : Operator} (h : bopM o p = true) : OpR X (binaryOp p) (rOp X.K (opBin o)) := by
  unfold bopM at h
  split at h
  · exact ops_add
  · exact ops_sub
  · exact ops_mul
  · exact ops_fdiv
  · exact ops_mod
  · exact ops_pow
  · cases h
def copM : COp → CmpOp → Bool
  | .eq, .Eq => true
  | .ne, .NotEq => true
  | .lt, .Lt => true
  | .le, .LtE => true
  | .gt, .Gt => true
  | .ge, .GtE => true
  | .inn, .In => true
  | .nin, .NotIn => true
  | .is, .Is => true
  | .isn, .IsNot => true
  | .deq, .Eq => true
  | _, _ => false
theorem copM_ok (hu : X.A.units + 200 < cLine) {o : COp} {p : CmpOp} (h : copM o p = true) : OpR X (compareOp p) (rCmp X.K (opCmp o)) := by
  unfold copM at h
  split at h
  · exact ops_eq (by omega)
  · exact ops_ne (by omega)
  · exact ops_lt
  · exact ops_le
  · exact ops_gt
  · exact ops_ge
  · exact ops_in (by omega)
  · exact ops_nin (by omega)
  · exact ops_is
  · exact ops_isn
  · exact ops_deq (by omega)
  · cases h
/-- a test that is known as a value -/
theorem pt_ofV {e : Expr} {r : TE} (h : PT X e (tTest r)) {t : L2.St → Hp → (Bool → Hp → Prop) → Prop} (i : ∀ σ H Q, t σ H Q → r σ H fun x H' => ∃ k, x = .bl k ∧ Q k H') : PT X e t := h.imp i
theorem se_cmp' {op : CmpOp} {f : Hh → D → D → Option Bool} (ho : OpR X (compareOp op) (rCmp X.K f)) (hp : plainX b = true) (ha : SE X a pa) (hb : SE X b pb) :
    SE X (.Compare a [op] [b] pos) (.plain fun ρ h => (pa.v ρ h).bind fun x h1 => (pb.v ρ h1).bind fun y h2 => R.opt ((f h2 x y).map D.bl) h2) := by
  have core : ∀ {σ : L2.St} {H : Hp} {ρ : Env} {h : Hh} {J : Jn} {Q : V → Hp → Prop} {α β : Type} {Rl : RelA α β} {g : D → Hh → R α} {Q' : β → Hp → Prop}, RE X.K J H ρ σ → RH X.K J h H →
      Post X.K J H Rl (((pa.v ρ h).bind fun x h1 => (pb.v ρ h1).bind fun y h2 => R.opt ((f h2 x y).map D.bl) h2).bind g) Q' →
      (∀ (k : Bool) (H' : Hp) (J' : Jn) (h' : Hh), RE X.K J' H' ρ σ → RH X.K J' h' H' → Post X.K J' H' Rl (g (.bl k) h') Q' → Q (.bl k) H') →
      tOp (rCmp X.K f) (tG X.K (rD X.K) pa.v) (tG X.K (rD X.K) pb.v) σ H Q := by
    intro σ H ρ h J Q α β Rl g Q' re rh q fin
    simp only [R.bind_assoc] at q
    refine (Post.step (R1 := rD X.K) (f := pa.v) re rh q).mono fun x H1 ⟨J1, h1, dx, e1, re1, rh1, rx, q1⟩ => ?_
    refine (Post.step (R1 := rD X.K) (f := pb.v) re1 rh1 q1).mono fun y H2 ⟨J2, h2, dy, e2, re2, rh2, ry, q2⟩ => ?_
    cases hd : f h2 dx dy with
    | none => rw [hd] at q2; exact False.elim q2
    | some k => rw [hd] at q2; exact ⟨J2, h2, dx, dy, k, rh2, rx.ext e2, ry, hd, fin k H2 J2 h2 re2 rh2 q2⟩
  refine ⟨(pe_cmpR ho ha.v hb.v (plain_mark hp _)).imp fun σ H Q ⟨ρ, h, J, re, rh, q⟩ => ?_, (pt_cmpR ho ha.v hb.v (plain_mark hp _)).imp fun σ H Q ⟨ρ, h, J, re, rh, q⟩ => ?_⟩
  · have as2 : ∀ r : R D, r = r.bind fun x h => .ok x h := fun r => by cases r <;> rfl
    dsimp only [P.plain] at q
    rw [as2 ((pa.v ρ h).bind _)] at q
    exact core re rh q fun k H' J' h' _ rh' q' => q' J' H' _ Ext.refl rh' (.bl k)
  · exact core re rh q fun k H' J' h' _ rh' q' => ⟨k, rfl, q' J' H' k Ext.refl rh' rfl⟩
end
end PV
end

section
set_option maxRecDepth 100000
namespace PV
open L2 PySem PySem.Spec PyProof.Rows
section
variable {X : Cx} {e x a b : Expr} {p pa pb pc : P} {pos : Pos}

/-! ### chains -/
theorem se_chain {op op' : CmpOp} {f f' : Hh → D → D → Option Bool} {c : Expr} (ho : OpR X (compareOp op) (rCmp X.K f)) (ho' : OpR X (compareOp op') (rCmp X.K f')) (hp : plainX c = true) (ha : SE X a pa) (hb : SE X b pb) (hc : SE X c pc) :
    SE X (.Compare a [op, op'] [b, c] pos) (.plain fun ρ h => (pa.v ρ h).bind fun x h1 => (pb.v ρ h1).bind fun y h2 => (R.opt (f h2 x y) h2).bind fun t h3 =>
      if t then (pc.v ρ h3).bind fun z h4 => R.opt ((f' h4 y z).map D.bl) h4 else .ok (.bl false) h3) := by
  have core : ∀ {σ : L2.St} {H : Hp} {ρ : Env} {h : Hh} {J : Jn} {Q : V → Hp → Prop} {α β : Type} {Rl : RelA α β} {g : D → Hh → R α} {Q' : β → Hp → Prop}, RE X.K J H ρ σ → RH X.K J h H →
      Post X.K J H Rl (((pa.v ρ h).bind fun x h1 => (pb.v ρ h1).bind fun y h2 => (R.opt (f h2 x y) h2).bind fun t h3 =>
      if t then (pc.v ρ h3).bind fun z h4 => R.opt ((f' h4 y z).map D.bl) h4 else .ok (.bl false) h3).bind g) Q' →
      (∀ (k : Bool) (H' : Hp) (J' : Jn) (h' : Hh), RE X.K J' H' ρ σ → RH X.K J' h' H' → Post X.K J' H' Rl (g (.bl k) h') Q' → Q (.bl k) H') →
      tChain (rCmp X.K f) (rCmp X.K f') (tG X.K (rD X.K) pa.v) (tG X.K (rD X.K) pb.v) (tG X.K (rD X.K) pc.v) σ H Q := by
    intro σ H ρ h J Q α β Rl g Q' re rh q fin
    simp only [R.bind_assoc] at q
    refine (Post.step (R1 := rD X.K) (f := pa.v) re rh q).mono fun x H1 ⟨J1, h1, dx, e1, re1, rh1, rx, q1⟩ => ?_
    refine (Post.step (R1 := rD X.K) (f := pb.v) re1 rh1 q1).mono fun y H2 ⟨J2, h2, dy, e2, re2, rh2, ry, q2⟩ => ?_
    cases hd : f h2 dx dy with
    | none => rw [hd] at q2; exact False.elim q2
    | some k =>
      rw [hd] at q2
      refine ⟨J2, h2, dx, dy, k, rh2, rx.ext e2, ry, hd, k, rfl, ?_⟩
      cases k with
      | false => exact fin false H2 J2 h2 re2 rh2 q2
      | true =>
        simp only [R.opt_some, R.bind_ok, if_true, R.bind_assoc] at q2 ⊢
        refine (Post.step (R1 := rD X.K) (f := pc.v) re2 rh2 q2).mono fun z H3 ⟨J3, h3, dz, e3, re3, rh3, rz, q3⟩ => ?_
        cases hd' : f' h3 dy dz with
        | none => rw [hd'] at q3; exact False.elim q3
        | some k' => rw [hd'] at q3; exact ⟨J3, h3, dy, dz, k', rh3, ry.ext e3, rz, hd', fin k' H3 J3 h3 re3 rh3 q3⟩
  have hm : lastMarks [op, op'] [b, c] = false := plain_mark hp _
  refine ⟨(pe_chain ho ho' ha.v hb.v hc.v hm).imp fun σ H Q ⟨ρ, h, J, re, rh, q⟩ => ?_, (pt_chain ho ho' ha.v hb.v hc.v hm).imp fun σ H Q ⟨ρ, h, J, re, rh, q⟩ => ?_⟩
  · have as2 : ∀ r : R D, r = r.bind fun x h => .ok x h := fun r => by cases r <;> rfl
    dsimp only [P.plain] at q
    rw [as2 ((pa.v ρ h).bind _)] at q
    exact core re rh q fun k H' J' h' _ rh' q' => q' J' H' _ Ext.refl rh' (.bl k)
  · exact core re rh q fun k H' J' h' _ rh' q' => ⟨k, rfl, q' J' H' k Ext.refl rh' rfl⟩

/-! ### and, or, not -/
theorem vBl_inv {α β : Type} {Rl : RelA α β} {J : Jn} {H : Hp} {d : D} {v : V} {h : Hh} {g : Bool → Hh → R α} {Q : β → Hp → Prop} (r : RD X.K J H d v) (q : Post X.K J H Rl ((vBl d h).bind g) Q) : ∃ t, v = .bl t ∧ Post X.K J H Rl (g t h) Q := by
  cases d with
  | bl t => exact ⟨t, r.bl_inv, q⟩
  | _ => exact False.elim q
theorem isEmpty_cons_false {es : List Expr} (h : es.isEmpty = false) : ∃ b r, es = b :: r := by
  cases es with
  | nil => cases h
  | cons b r => exact ⟨b, r, rfl⟩
theorem ses_nil : SEs X [] ⟨true, fun _ h => .ok [] h, fun _ _ => .bad, fun _ _ => .bad, fun _ _ => .bad, fun _ _ => .bad⟩ where
  l := pa_nil.imp fun σ H Q ⟨ρ, h, J, re, rh, q⟩ => q J H [] Ext.refl rh .nil
  nil := rfl
  kw := fun kws e => by
    cases kws with
    | nil => exact ⟨fun pos pins s σ H Q I ⟨ρ, h, J, re, rh, q⟩ => pk_nil.run pos pins s σ H Q I (q J H [] Ext.refl rh .nil)⟩
    | cons _ _ => cases e
  an := fun _ => ⟨fun _ _ _ _ _ _ ⟨_, _, _, _, _, q⟩ => False.elim q⟩
  on := fun _ => ⟨fun _ _ _ _ _ _ ⟨_, _, _, _, _, q⟩ => False.elim q⟩
  at_ := fun _ => ⟨fun _ _ _ _ _ _ _ ⟨_, _, _, _, _, q⟩ => False.elim q⟩
  ot := fun _ => ⟨fun _ _ _ _ _ _ _ ⟨_, _, _, _, _, q⟩ => False.elim q⟩
/-- and, of one and more -/
theorem pe_andV {es : List Expr} {pl : PL} (ha : SE X a pa) (hl : SEs X es pl) (hn : es.isEmpty = false) :
    PE X (.BoolOp .And (a :: es) pos) (tG X.K (rD X.K) fun ρ h => (pa.v ρ h).bind fun x h1 => (vBl x h1).bind fun t h2 => if t then pl.an ρ h2 else .ok (.bl false) h2) := by
  obtain ⟨b, r, rfl⟩ := isEmpty_cons_false hn
  refine (pe_and ha.v (hl.an pos)).imp fun σ H Q ⟨ρ, h, J, re, rh, q⟩ => ?_
  refine (Post.step (R1 := rD X.K) (f := pa.v) re rh q).mono fun x H1 ⟨J1, h1, dx, e1, re1, rh1, rx, q1⟩ => ?_
  obtain ⟨t, rfl, q2⟩ := vBl_inv rx q1
  refine ⟨t, rfl, ?_⟩
  cases t with
  | true => exact ⟨ρ, h1, J1, re1, rh1, q2⟩
  | false => exact q2 J1 H1 _ Ext.refl rh1 (.bl false)
theorem pe_orV {es : List Expr} {pl : PL} (ha : SE X a pa) (hl : SEs X es pl) (hn : es.isEmpty = false) :
    PE X (.BoolOp .Or (a :: es) pos) (tG X.K (rD X.K) fun ρ h => (pa.v ρ h).bind fun x h1 => (vBl x h1).bind fun t h2 => if t then .ok (.bl true) h2 else pl.on ρ h2) := by
  obtain ⟨b, r, rfl⟩ := isEmpty_cons_false hn
  refine (pe_or ha.v (hl.on pos)).imp fun σ H Q ⟨ρ, h, J, re, rh, q⟩ => ?_
  refine (Post.step (R1 := rD X.K) (f := pa.v) re rh q).mono fun x H1 ⟨J1, h1, dx, e1, re1, rh1, rx, q1⟩ => ?_
  obtain ⟨t, rfl, q2⟩ := vBl_inv rx q1
  refine ⟨t, rfl, ?_⟩
  cases t with
  | false => exact ⟨ρ, h1, J1, re1, rh1, q2⟩
  | true => exact q2 J1 H1 _ Ext.refl rh1 (.bl true)
theorem pw_andV {es : List Expr} {pl : PL} (ha : SE X a pa) (hl : SEs X es pl) (hn : es.isEmpty = false) :
    PW X (.BoolOp .And (a :: es) pos) (tG X.K rB fun ρ h => (pa.t ρ h).bind fun t h1 => if t then pl.at_ ρ h1 else .ok false h1) := by
  obtain ⟨b, r, rfl⟩ := isEmpty_cons_false hn
  refine (pw_and ha.t (hl.at_ pos)).imp fun σ H Q ⟨ρ, h, J, re, rh, q⟩ => ?_
  refine (Post.step (R1 := rB) (f := pa.t) re rh q).mono fun x H1 ⟨J1, h1, t, e1, re1, rh1, rx, q1⟩ => ?_
  have rx : t = x := rx
  subst rx
  cases t with
  | true => exact ⟨ρ, h1, J1, re1, rh1, q1⟩
  | false => exact q1 J1 H1 _ Ext.refl rh1 rfl
theorem pw_orV {es : List Expr} {pl : PL} (ha : SE X a pa) (hl : SEs X es pl) (hn : es.isEmpty = false) :
    PW X (.BoolOp .Or (a :: es) pos) (tG X.K rB fun ρ h => (pa.t ρ h).bind fun t h1 => if t then .ok true h1 else pl.ot ρ h1) := by
  obtain ⟨b, r, rfl⟩ := isEmpty_cons_false hn
  refine (pw_or ha.t (hl.ot pos)).imp fun σ H Q ⟨ρ, h, J, re, rh, q⟩ => ?_
  refine (Post.step (R1 := rB) (f := pa.t) re rh q).mono fun x H1 ⟨J1, h1, t, e1, re1, rh1, rx, q1⟩ => ?_
  have rx : t = x := rx
  subst rx
  cases t with
  | false => exact ⟨ρ, h1, J1, re1, rh1, q1⟩
  | true => exact q1 J1 H1 _ Ext.refl rh1 rfl
theorem ses_cons {es : List Expr} {pl : PL} (hp : plainX a = true) (ha : SE X a pa) (hl : SEs X es pl) : SEs X (a :: es) ⟨false,
      fun ρ h => (pa.v ρ h).bind fun x h1 => (pl.l ρ h1).bind fun xs h2 => .ok (x :: xs) h2,
      fun ρ h => if pl.nil then pa.v ρ h else (pa.v ρ h).bind fun x h1 => (vBl x h1).bind fun t h2 => if t then pl.an ρ h2 else .ok (.bl false) h2,
      fun ρ h => if pl.nil then pa.v ρ h else (pa.v ρ h).bind fun x h1 => (vBl x h1).bind fun t h2 => if t then .ok (.bl true) h2 else pl.on ρ h2,
      fun ρ h => if pl.nil then pa.t ρ h else (pa.t ρ h).bind fun t h1 => if t then pl.at_ ρ h1 else .ok false h1,
      fun ρ h => if pl.nil then pa.t ρ h else (pa.t ρ h).bind fun t h1 => if t then .ok true h1 else pl.ot ρ h1⟩ := by
  refine ⟨(pa_cons ha.v hl.l (plain_star hp _ _)).imp fun σ H Q ⟨ρ, h, J, re, rh, q⟩ => ?_, rfl, fun kws ek => ?_, fun pos => ?_, fun pos => ?_, fun pos => ?_, fun pos => ?_⟩
  · refine (Post.step (R1 := rD X.K) (f := pa.v) re rh q).mono fun x H1 ⟨J1, h1, dx, e1, re1, rh1, rx, q1⟩ => ?_
    refine (Post.step (R1 := rDs X.K) (f := pl.l) re1 rh1 q1).mono fun xs H2 ⟨J2, h2, ds, e2, re2, rh2, rs, q2⟩ => ?_
    exact q2 J2 H2 _ Ext.refl rh2 (.cons (rx.ext e2) rs)
  · cases kws with
    | nil => cases ek
    | cons k kws =>
      obtain ⟨nm, e, kp⟩ := k
      simp only [List.map_cons, List.cons.injEq] at ek
      obtain ⟨rfl, ek⟩ := ek
      refine ⟨fun pos pins s σ H Q I ⟨ρ, h, J, re, rh, q⟩ => (pk_cons ha.v (hl.kw kws ek)).run pos pins s σ H Q I ?_⟩
      refine (Post.step (R1 := rD X.K) (f := pa.v) re rh q).mono fun x H1 ⟨J1, h1, dx, e1, re1, rh1, rx, q1⟩ => ?_
      refine (Post.step (R1 := rDs X.K) (f := pl.l) re1 rh1 q1).mono fun xs H2 ⟨J2, h2, ds, e2, re2, rh2, rs, q2⟩ => ?_
      exact q2 J2 H2 _ Ext.refl rh2 (.cons (rx.ext e2) rs)
  all_goals
    cases hn : es.isEmpty with
    | true =>
      have he : es = [] := by cases es with | nil => rfl | cons _ _ => cases hn
      subst he
      simp only [hl.nil, hn, if_true]
      first | exact pe_one ha.v | exact pw_and1 ha.t | exact pw_or1 ha.t
    | false =>
      simp only [hl.nil, hn, Bool.false_eq_true, if_false]
      first | exact pe_andV ha hl hn | exact pe_orV ha hl hn | exact pw_andV ha hl hn | exact pw_orV ha hl hn
theorem se_and {es : List Expr} {pl : PL} (ha : SE X a pa) (hl : SEs X es pl) (hn : es.isEmpty = false) : SE X (.BoolOp .And (a :: es) pos) ⟨fun ρ h => (pa.v ρ h).bind fun x h1 => (vBl x h1).bind fun t h2 => if t then pl.an ρ h2 else .ok (.bl false) h2,
    fun ρ h => (pa.t ρ h).bind fun t h1 => if t then pl.at_ ρ h1 else .ok false h1⟩ := ⟨pe_andV ha hl hn, (pw_andV ha hl hn).pt⟩
theorem se_or {es : List Expr} {pl : PL} (ha : SE X a pa) (hl : SEs X es pl) (hn : es.isEmpty = false) : SE X (.BoolOp .Or (a :: es) pos) ⟨fun ρ h => (pa.v ρ h).bind fun x h1 => (vBl x h1).bind fun t h2 => if t then .ok (.bl true) h2 else pl.on ρ h2,
    fun ρ h => (pa.t ρ h).bind fun t h1 => if t then .ok true h1 else pl.ot ρ h1⟩ := ⟨pe_orV ha hl hn, (pw_orV ha hl hn).pt⟩
theorem se_not (ha : SE X a pa) : SE X (.UnaryOp .Not a pos) ⟨fun ρ h => (pa.v ρ h).bind fun x h1 => (vBl x h1).bind fun t h2 => .ok (.bl (!t)) h2, fun ρ h => (pa.t ρ h).bind fun t h1 => .ok (!t) h1⟩ := by
  refine ⟨(pe_not ha.v).imp fun σ H Q ⟨ρ, h, J, re, rh, q⟩ => ?_, (pt_not ha.t).imp fun σ H Q ⟨ρ, h, J, re, rh, q⟩ => ?_⟩
  · refine (Post.step (R1 := rD X.K) (f := pa.v) re rh q).mono fun x H1 ⟨J1, h1, dx, e1, re1, rh1, rx, q1⟩ => ?_
    obtain ⟨t, rfl, q2⟩ := vBl_inv rx q1
    exact ⟨t, rfl, q2 J1 H1 _ Ext.refl rh1 (.bl _)⟩
  · refine (Post.step (R1 := rB) (f := pa.t) re rh q).mono fun x H1 ⟨J1, h1, t, e1, re1, rh1, rx, q1⟩ => ?_
    cases rx
    exact q1 J1 H1 _ Ext.refl rh1 rfl
theorem se_neg (ha : SE X a pa) : SE X (.UnaryOp .USub a pos) (.plain fun ρ h => (pa.v ρ h).bind fun x h1 => R.opt (x.isInt.map fun i => .int (-i)) h1) := by
  refine SE.plain ((pe_un un_neg ha.v).imp fun σ H Q ⟨ρ, h, J, re, rh, q⟩ => ?_) (fun _ => rfl)
  refine (Post.step (R1 := rD X.K) (f := pa.v) re rh q).mono fun x H1 ⟨J1, h1, dx, e1, re1, rh1, rx, q1⟩ => ?_
  cases dx with
  | int i => exact ⟨i, rx.int_inv, q1 J1 H1 _ Ext.refl rh1 (.int _)⟩
  | _ => exact False.elim q1
theorem isTrue_if {c : Expr} {M : Model} {A : Around} {E : Value → Shared → Prop} {s : Shared} {env : PySem.Env} {whole : Sem Value} {Q : Bool → Shared → Prop}
    (h : wpAny M A (isTrue c env (eval c env)) (fun t s' => if t = true then wpAny M A (isTrue a env (eval a env)) Q E s' else wpAny M A (isTrue b env (eval b env)) Q E s') E s) : wpAny M A (isTrue (.IfExp c a b pos) env whole) Q E s := by
  show wpAny M A (do if ← isTrue c env (eval c env) then isTrue a env (eval a env) else isTrue b env (eval b env)) Q E s
  refine wpAny_bind (wpAny_mono h (fun t s' q => ?_) fun _ _ z => z)
  cases t with
  | true => exact q
  | false => exact q
theorem se_ite {c : Expr} (hc : SE X c pc) (ha : SE X a pa) (hb : SE X b pb) : SE X (.IfExp c a b pos) ⟨fun ρ h => (pc.t ρ h).bind fun t h1 => if t then pa.v ρ h1 else pb.v ρ h1, fun ρ h => (pc.t ρ h).bind fun t h1 => if t then pa.t ρ h1 else pb.t ρ h1⟩ := by
  refine ⟨(pe_ifExp hc.t ha.v hb.v).imp fun σ H Q ⟨ρ, h, J, re, rh, q⟩ => ?_, ⟨fun pins s σ H Q I ⟨ρ, h, J, re, rh, q⟩ => isTrue_if ?_⟩⟩
  · refine (Post.step (R1 := rB) (f := pc.t) re rh q).mono fun x H1 ⟨J1, h1, t, e1, re1, rh1, rx, q1⟩ => ?_
    have rx : t = x := rx
    subst rx
    cases t with
    | true => exact ⟨ρ, h1, J1, re1, rh1, q1⟩
    | false => exact ⟨ρ, h1, J1, re1, rh1, q1⟩
  · refine thn (hc.t.run pins s σ H _ I (Post.step (R1 := rB) (f := pc.t) re rh q)) fun t s' ⟨H1, I1, J1, h1, t', e1, re1, rh1, rx, q1⟩ => ?_
    have rx : t' = t := rx
    subst rx
    cases t' with
    | true => exact ha.t.run pins s' σ H1 Q I1 ⟨ρ, h1, J1, re1, rh1, q1⟩
    | false => exact hb.t.run pins s' σ H1 Q I1 ⟨ρ, h1, J1, re1, rh1, q1⟩

/-! ### subscripts, slices, displays -/
theorem se_idx (hu : X.A.units + 200 < cLine) (hp : plainX b = true) (ha : SE X a pa) (hb : SE X b pb) : SE X (.Subscript a b pos) (.plain fun ρ h => (pa.v ρ h).bind fun x h1 => (pb.v ρ h1).bind fun y h2 => R.opt (opIdx h2 x y) h2) := by
  refine SE.plain ((pe_ix (ix_all (by omega)) ha.v hb.v (plain_ix hp)).imp fun σ H Q ⟨ρ, h, J, re, rh, q⟩ => ?_) (fun _ => rfl)
  refine (Post.step (R1 := rD X.K) (f := pa.v) re rh q).mono fun x H1 ⟨J1, h1, dx, e1, re1, rh1, rx, q1⟩ => ?_
  refine (Post.step (R1 := rD X.K) (f := pb.v) re1 rh1 q1).mono fun y H2 ⟨J2, h2, dy, e2, re2, rh2, ry, q2⟩ => ?_
  obtain ⟨d, hd, q3⟩ := Post.optX q2
  exact ⟨J2, h2, dx, dy, d, rh2, rx.ext e2, ry, hd, q3⟩
abbrev rO : RelA (Option Int) (Option Int) := fun _ _ a b => a = b
theorem so_none {pl : P} : PO X none (tG X.K rO (vPart true pl)) :=
  ⟨fun pins s σ H Q I ⟨ρ, h, J, re, rh, q⟩ => po_none.run pins s σ H Q I (q J H none Ext.refl rh rfl)⟩
theorem so_some (ha : SE X a pa) : PO X (some a) (tG X.K rO (vPart false pa)) := by
  refine ⟨fun pins s σ H Q I ⟨ρ, h, J, re, rh, q⟩ => (po_some ha.v).run pins s σ H Q I ?_⟩
  have q' : Post X.K J H rO ((pa.v ρ h).bind fun d h1 => R.opt (d.isInt.map some) h1) Q := q
  refine (Post.step (R1 := rD X.K) (f := pa.v) re rh q').mono fun x H1 ⟨J1, h1, d, e1, re1, rh1, rx, q1⟩ => ?_
  cases d with
  | int i => exact ⟨i, rx.int_inv, q1 J1 H1 _ Ext.refl rh1 rfl⟩
  | _ => exact False.elim q1
theorem se_slc {lo hi : Option Expr} {pl ph : P} {ml mh : Bool} {sp : Pos} (ha : SE X a pa) (hl : PO X lo (tG X.K rO (vPart ml pl))) (hh : PO X hi (tG X.K rO (vPart mh ph))) :
    SE X (.Subscript a (.Slice lo hi none sp) pos) (.plain fun ρ h => (pa.v ρ h).bind fun x h1 => (vPart ml pl ρ h1).bind fun l h2 => (vPart mh ph ρ h2).bind fun u h3 => R.opt (opSlc h3 x l u) h3) := by
  refine SE.plain ((pe_slice sl_all ha.v hl hh).imp fun σ H Q ⟨ρ, h, J, re, rh, q⟩ => ?_) (fun _ => rfl)
  refine (Post.step (R1 := rD X.K) (f := pa.v) re rh q).mono fun x H1 ⟨J1, h1, dx, e1, re1, rh1, rx, q1⟩ => ?_
  refine (Post.step (R1 := rO) (f := vPart ml pl) re1 rh1 q1).mono fun y H2 ⟨J2, h2, l, e2, re2, rh2, ry, q2⟩ => ?_
  refine (Post.step (R1 := rO) (f := vPart mh ph) re2 rh2 q2).mono fun z H3 ⟨J3, h3, u, e3, re3, rh3, rz, q3⟩ => ?_
  have ry : l = y := ry
  have rz : u = z := rz
  subst ry rz
  obtain ⟨d, hd, q4⟩ := Post.optX q3
  exact ⟨J3, h3, dx, d, rh3, (rx.ext e2).ext e3, hd, q4⟩
theorem se_tup {es : List Expr} {pl : PL} {k : Nat} (hl : SEs X es pl) : SE X (.Tuple es k pos) (.plain fun ρ h => (pl.l ρ h).bind fun xs h1 => if sizeOk xs.length then .ok (.tup xs) h1 else .bad) := by
  refine SE.plain ((pe_tup hl.l).imp fun σ H Q ⟨ρ, h, J, re, rh, q⟩ => ?_) (fun _ => rfl)
  refine (Post.step (R1 := rDs X.K) (f := pl.l) re rh q).mono fun xs H1 ⟨J1, h1, ds, e1, re1, rh1, rs, q1⟩ => ?_
  split at q1
  · rename_i hz
    have hz' : xs.length ≤ sizeLine := by rw [← rs.length]; exact size_of hz
    exact ⟨hz', fun p np => q1 _ _ _ (Ext.laid np) (rh1.laid np) (RD.newTup rh1 np rs hz')⟩
  · exact False.elim q1

/-! ### new lists -/
/-- a reading that ends in a new list -/
def tF (K : PySem.W.Frag) (v : Env → Hh → R D) : TE := fun σ H Q => ∃ ρ h J, RE K J H ρ σ ∧ RH K J h H ∧ match v ρ h with
  | .ok (.lst ds) h' => ∀ J' H' a vs, Ext J H ⟨J'.l, J.z⟩ H' → J'.z = a :: J.z → RH K J' h' H' → H' a = some (.lst vs) → vs.length ≤ sizeLine → RDs K J' H' ds vs → H a = none → Q (.ref a) H'
  | _ => False
theorem tF_of {K : PySem.W.Frag} {v : Env → Hh → R D} {σ : L2.St} {H : Hp} {Q : VK} (hl : ∀ ρ h d h', v ρ h = .ok d h' → ∃ ds, d = .lst ds) (t : tG K (rD K) v σ H Q) : tF K v σ H Q := by
  obtain ⟨ρ, h, J, re, rh, q⟩ := t
  refine ⟨ρ, h, J, re, rh, ?_⟩
  cases ev : v ρ h with
  | ok d h' =>
    rw [ev] at q
    obtain ⟨ds, rfl⟩ := hl ρ h d h' ev
    intro J' H' a vs e ez rh' ha hz rs na
    obtain ⟨l', z'⟩ := J'
    simp only at ez e
    subst ez
    exact q _ H' _ e (rh'.show_ (J := ⟨l', J.z⟩)) (.lst (rh'.apart a List.mem_cons_self) (fun z => rh.notz na z) ha hz (rs.sub (Sub.show_ (J := ⟨l', J.z⟩))))
  | bad => rw [ev] at q; exact q
  | err _ _ => rw [ev] at q; exact q
theorem tF_val {v : Env → Hh → R D} (hv : PE X e (tF X.K v)) (hl : ∀ ρ h d h', v ρ h = .ok d h' → ∃ ds, d = .lst ds) : PE X e (tG X.K (rD X.K) v) := hv.imp fun σ H Q t => tF_of hl t
theorem se_lstF {es : List Expr} {pl : PL} (hl : SEs X es pl) : PE X (.List es pos) (tF X.K fun ρ h => (pl.l ρ h).bind fun xs h1 => if sizeOk xs.length then .ok (.lst xs) h1 else .bad) := by
  refine (pe_lst hl.l).imp fun σ H Q ⟨ρ, h, J, re, rh, q⟩ => ?_
  refine ⟨ρ, h, J, re, rh, ?_⟩
  dsimp only at q
  cases ev : pl.l ρ h with
  | ok ds h1 =>
    rw [ev, R.bind_ok] at q
    split at q
    · rename_i ds' h1' heq
      split at heq
      · rename_i hz; cases heq
        intro J1 H1 vs e1 rh1 rs
        have hz' : vs.length ≤ sizeLine := by rw [← rs.length]; exact size_of hz
        refine ⟨hz', fun p np => ?_⟩
        refine q (J1.hide p) _ p vs ⟨rfl, ?_, ?_⟩ ?_ (rh1.hide np) upd_same hz' ((rs.sub (Sub.hide np)).ext (Ext.laid np)) ?_
        · exact e1.pre
        · intro a o n q; rw [upd_ne (ne_of_none (e1.keep a o n q) np)]; exact e1.keep a o n q
        · show p :: J1.z = p :: J.z; rw [e1.z]
        · cases hp : H p with
          | none => rfl
          | some u =>
            exfalso
            by_cases n : p ∈ J.l
            · obtain ⟨m, hm, _⟩ := e1.pre
              obtain ⟨u', h2⟩ := rh1.inl (a := p) (by rw [hm]; exact List.mem_append_left _ n)
              rw [np] at h2; cases h2
            · have := e1.keep p u n hp; rw [np] at this; cases this
      · cases heq
    · exact False.elim q
  | bad => rw [ev] at q; exact False.elim q
  | err _ _ => rw [ev] at q; exact False.elim q
theorem se_lst {es : List Expr} {pl : PL} (hl : SEs X es pl) : SE X (.List es pos) (.plain fun ρ h => (pl.l ρ h).bind fun xs h1 => if sizeOk xs.length then .ok (.lst xs) h1 else .bad) := by
  refine SE.plain (tF_val (se_lstF hl) fun ρ h d h' e => ?_) (fun _ => rfl)
  cases ev : pl.l ρ h with
  | ok ds h1 =>
    rw [ev, R.bind_ok] at e
    split at e
    · cases e; exact ⟨_, rfl⟩
    · cases e
  | bad => rw [ev] at e; cases e
  | err _ _ => rw [ev] at e; cases e
/-- .. that becomes an object -/
theorem tF_new {K : PySem.W.Frag} {v : Env → Hh → R D} {σ : L2.St} {H : Hp} {Q : VK} (t : tG K (rD K) (fun ρ h => (v ρ h).bind newObj) σ H Q) : tF K v σ H Q := by
  obtain ⟨ρ, h, J, re, rh, q⟩ := t
  refine ⟨ρ, h, J, re, rh, ?_⟩
  dsimp only at q
  cases ev : v ρ h with
  | ok d h' =>
    rw [ev, R.bind_ok] at q
    cases d with
    | lst ds =>
      intro J' H' a vs e ez rh' ha hz rs na
      obtain ⟨l', z'⟩ := J'
      simp only at ez e
      subst ez
      have rh2 : RH K (Jn.own ⟨l', J.z⟩ a) (h' ++ [.lst ds]) H' := rh'.own (J := ⟨l', J.z⟩) (fun z => rh.notz na z) ha (.lst hz rs)
      refine q _ H' _ (Ext.own (J' := ⟨l', J.z⟩) na e) rh2 (.ref ?_)
      show (l' ++ [a])[h'.length]? = some a
      have hl : l'.length = h'.length := rh'.len
      rw [← hl, List.getElem?_append_right (Nat.le_refl _)]; simp
    | _ => exact False.elim q
  | bad => rw [ev] at q; exact False.elim q
  | err _ _ => rw [ev] at q; exact False.elim q
theorem se_new {v : Env → Hh → R D} (hv : PE X e (tF X.K v)) (he : ∀ whole, isTrue e X.env whole = (do let v ← whole; standAt e.pos; holding [v] (truthy v))) : SE X e (.plain fun ρ h => (v ρ h).bind newObj) :=
  SE.plain (hv.imp fun σ H Q t => tF_new t) he
end
end PV
end

section
set_option maxRecDepth 100000
namespace PV
open L2 PySem PySem.Spec PyProof.Rows
mutual
theorem same_eq : ∀ x y : D, D.same x y = true → x = y
  | .non, y, h => by cases y <;> simp [D.same] at h; rfl
  | .bl a, y, h => by cases y <;> simp [D.same] at h; rw [h]
  | .int a, y, h => by cases y <;> simp [D.same] at h; rw [h]
  | .str a, y, h => by cases y <;> simp [D.same] at h; rw [h]
  | .ref a, y, h => by cases y <;> simp [D.same] at h; rw [h]
  | .tup a, y, h => by
    cases y with
    | tup b => simp only [D.same] at h; rw [sames_eq a b h]
    | _ => simp [D.same] at h
  | .lst a, y, h => by
    cases y with
    | lst b => simp only [D.same] at h; rw [sames_eq a b h]
    | _ => simp [D.same] at h
  | .ftup a, y, h => by cases y <;> simp [D.same] at h
  | .fz a, y, h => by
    cases y with
    | fz b => simp only [D.same] at h; rw [sames_eq a b h]
    | _ => simp [D.same] at h
theorem sames_eq : ∀ xs ys : List D, D.sames xs ys = true → xs = ys
  | [], [], _ => rfl
  | [], _ :: _, h => by simp [D.sames] at h
  | _ :: _, [], h => by simp [D.sames] at h
  | x :: xs, y :: ys, h => by
    simp only [D.sames, Bool.and_eq_true] at h
    rw [same_eq x y h.1, sames_eq xs ys h.2]
end
theorem Ext.sub {J J' : Jn} {H H' : Hp} (e : Ext J H J' H') : Sub J H J' H' := ⟨fun a o n m q => ⟨e.notin n q, by rw [e.z]; exact m, e.keep a o n q⟩, fun _ _ q => e.get q⟩
theorem Sub.trans {J J' J2 : Jn} {H H' H2 : Hp} (e : Sub J H J' H') (f : Sub J' H' J2 H2) : Sub J H J2 H2 :=
  ⟨fun a o n m q => let ⟨x, y, z⟩ := e.l a o n m q; f.l a o x y z, fun i a q => f.get i a (e.get i a q)⟩
theorem Sub.refl {J : Jn} {H : Hp} : Sub J H J H := ⟨fun a o n m q => ⟨n, m, q⟩, fun _ _ q => q⟩

/-! ### iterators -/
structure ItOk (K : PySem.W.Frag) (J : Jn) (H : Hp) (it : It) (src : Src) : Prop where
  go : ∀ {J2 : Jn} {h2 : Hh} {H2 : Hp} {i : Nat} {d : D}, Sub J H J2 H2 → RH K J2 h2 H2 → src.good h2 = true → src.items[i]? = some d → it.go i H2 ∧ ∀ x H3, it.yld i H2 x H3 → Ext J2 H2 J2 H3 ∧ RH K J2 h2 H3 ∧ RD K J2 H3 d x
  stop : ∀ {J2 : Jn} {h2 : Hh} {H2 : Hp}, Sub J H J2 H2 → RH K J2 h2 H2 → src.good h2 = true → it.stop src.items.length H2
def tI (K : PySem.W.Frag) (f : Env → Hh → R Src) : TI := fun σ H Rr => ∃ ρ h J, RE K J H ρ σ ∧ RH K J h H ∧ match f ρ h with
  | .ok src h' => ∀ J' H' it, Ext J H J' H' → RH K J' h' H' → ItOk K J' H' it src → Rr it H'
  | _ => False
section
variable {X : Cx} {e x a b tg : Expr} {p pa pb pc : P} {pos : Pos} {K : PySem.W.Frag} {J : Jn} {H : Hp} {h : Hh}
theorem itl_ok {a : Addr} {ds : List D} {vs : List V} (st : ∀ {J2 : Jn} {H2 : Hp}, Sub J H J2 H2 → SqL K H2 a vs) (r : RDs K J H ds vs) : ItOk K J H (Itl K a) ⟨ds, none⟩ := by
  refine ⟨fun {J2 h2 H2 i d} s rh _ hd => ?_, fun {J2 h2 H2} s rh _ => ⟨vs, st s, by rw [r.length]; exact Nat.le_refl _⟩⟩
  obtain ⟨v, hv, rv⟩ := r.get hd
  refine ⟨⟨vs, v, st s, hv⟩, fun x H3 ⟨e1, e2⟩ => ?_⟩
  subst e1
  have := e2 vs (st s)
  rw [hv] at this; cases this
  exact ⟨Ext.refl, rh, rv.sub s⟩
theorem itt_ok {a : Addr} {ds : List D} {vs : List V} (q : ∀ {J2 : Jn} {H2 : Hp}, Sub J H J2 H2 → SqT K H2 a vs) (r : RDs K J H ds vs) : ItOk K J H (Itt K a) ⟨ds, none⟩ := by
  refine ⟨fun {J2 h2 H2 i d} s rh _ hd => ?_, fun {J2 h2 H2} s rh _ => ⟨vs, q s, by rw [r.length]; exact Nat.le_refl _⟩⟩
  obtain ⟨v, hv, rv⟩ := r.get hd
  refine ⟨⟨vs, v, q s, hv⟩, fun x H3 ⟨e1, e2⟩ => ?_⟩
  subst e1
  have := e2 vs (q s)
  rw [hv] at this; cases this
  exact ⟨Ext.refl, rh, rv.sub s⟩
theorem itl_ref {i : Nat} {a : Addr} {ds : List D} (q : J.l[i]? = some a) : ItOk K J H (Itl K a) ⟨ds, some i⟩ := by
  have st : ∀ {J2 h2 H2}, Sub J H J2 H2 → RH K J2 h2 H2 → Src.good ⟨ds, some i⟩ h2 = true → ∃ vs, SqL K H2 a vs ∧ RDs K J2 H2 ds vs := fun {J2 h2 H2} s rh g => by
    obtain ⟨o, u, h1, h2', h3⟩ := rh.at (s.get i a q)
    simp only [Src.good, h1] at g
    cases h3 with
    | lst z r => have e := sames_eq _ _ g; subst e; exact ⟨_, .inl (.inl h2'), r⟩
    | dct z r => cases g
    | tb _ _ => cases g
  refine ⟨fun {J2 h2 H2 j d} s rh g hd => ?_, fun {J2 h2 H2} s rh g => ?_⟩
  · obtain ⟨vs, hq, r⟩ := st s rh g
    obtain ⟨v, hv, rv⟩ := r.get hd
    refine ⟨⟨vs, v, hq, hv⟩, fun x H3 ⟨e1, e2⟩ => ?_⟩
    subst e1
    have := e2 vs hq
    rw [hv] at this; cases this
    exact ⟨Ext.refl, rh, rv⟩
  · obtain ⟨vs, hq, r⟩ := st s rh g
    exact ⟨vs, hq, by rw [r.length]; exact Nat.le_refl _⟩
theorem itr_ok {lo hi : Int} : ItOk K J H (Itr lo (hi - lo).toNat) ⟨rngD lo hi, none⟩ := by
  have hl : (rngD lo hi).length = (hi - lo).toNat := by simp [rngD]
  refine ⟨fun {J2 h2 H2 i d} s rh _ hd => ?_, fun {J2 h2 H2} s rh _ => by show _ ≤ _; rw [hl]; exact Nat.le_refl _⟩
  have hi' : i < (hi - lo).toNat := by rw [← hl]; exact (List.getElem?_eq_some_iff.mp hd).1
  refine ⟨hi', fun x H3 ⟨e1, e2⟩ => ?_⟩
  subst e1 e2
  refine ⟨Ext.refl, rh, ?_⟩
  simp only [rngD, List.getElem?_map, List.getElem?_range hi', Option.map_some, Option.some.injEq] at hd
  subst hd
  exact .int _
/-- the items that a value gives -/
theorem tup_st {ds : List D} {v : V} (r : RD K J H (.tup ds) v) : ∃ a vs, v = .ref a ∧ (∀ {J2 : Jn} {H2 : Hp}, Sub J H J2 H2 → SqT K H2 a vs) ∧ vs.length ≤ sizeLine ∧ RDs K J H ds vs := by
  cases r with
  | tup n m q z r => exact ⟨_, _, rfl, fun s => .inl (.inl (s.l _ _ n m q).2.2), z, r⟩
  | ktup k z r => exact ⟨_, _, rfl, fun _ => .inr k, z, r⟩
theorem lst_st {d : D} {ds : List D} {v : V} (hd : d = .lst ds ∨ d = .fz ds) (r : RD K J H d v) : ∃ a vs, v = .ref a ∧ (∀ {J2 : Jn} {H2 : Hp}, Sub J H J2 H2 → SqL K H2 a vs) ∧ vs.length ≤ sizeLine ∧ RDs K J H ds vs := by
  rcases hd with rfl | rfl
  · cases r with | lst n m q z r => exact ⟨_, _, rfl, fun s => .inl (.inl (s.l _ _ n m q).2.2), z, r⟩
  · cases r with
    | fz n m q z r => exact ⟨_, _, rfl, fun s => .inl (.inr ⟨_, (s.l _ _ n m q).2.2⟩), z, r⟩
    | kfz k z r => exact ⟨_, _, rfl, fun _ => .inr k, z, r⟩
theorem ftup_st {K : PySem.W.Frag} {J : Jn} {H : Hp} {ds : List D} {v : V} (r : RD K J H (.ftup ds) v) : ∃ p vs, v = .ref p ∧ (∀ {J2 : Jn} {H2 : Hp}, Sub J H J2 H2 → SqT K H2 p vs) ∧ vs.length ≤ sizeLine ∧ RDs K J H ds vs := by
  cases r with
  | ft n m q c d z rr => exact ⟨_, _, rfl, fun s => .inl (.inr ⟨_, (s.l _ _ n m q).2.2⟩), z, rr⟩
theorem PI.or {t u : TI} (h : PI X tg e t) (h' : PI X tg e u) : PI X tg e (fun σ H R => t σ H R ∨ u σ H R) := ⟨fun p s σ H R I q => q.elim (h.run p s σ H R I) (h'.run p s σ H R I)⟩
/-- a value that is walked: a list or a tuple -/
theorem pi_any (ha : PE X a (tG X.K (rD X.K) pa.v)) : PI X tg a (tI X.K fun ρ h => (pa.v ρ h).bind fun x h1 => R.opt (x.src h1) h1) := by
  refine ⟨fun pins s σ H Rr I ⟨ρ, h, J, re, rh, q⟩ => ?_⟩
  dsimp only at q
  cases ev : pa.v ρ h with
  | ok d h1 =>
    rw [ev, R.bind_ok] at q
    cases es : d.src h1 with
    | none => rw [es] at q; exact False.elim q
    | some src =>
      rw [es] at q
      have q : ∀ J' H' it, Ext J H J' H' → RH X.K J' h1 H' → ItOk X.K J' H' it src → Rr it H' := q
      have lists : (∃ ds, (d = .lst ds ∨ d = .fz ds) ∧ src = ⟨ds, none⟩) → wpAny (model X.prog X.w) X.A (eval a X.env) (fun v s1 => wpAny (model X.prog X.w) X.A (pyIter v) (PIE X pins σ tg Rr) X.xe s1) X.xe s := by
        rintro ⟨ds, hd, rfl⟩
        refine (pi_list ha).run pins s σ H Rr I ⟨ρ, h, J, re, rh, ?_⟩
        rw [ev]
        intro J' H' v e1 rh' rv
        obtain ⟨p, vs, rfl, hq, z, rr⟩ := lst_st hd rv
        exact ⟨p, rfl, ⟨vs, hq Sub.refl⟩, q J' H' _ e1 rh' (itl_ok hq rr)⟩
      cases d with
      | lst ds => cases es; exact lists ⟨ds, .inl rfl, rfl⟩
      | fz ds => cases es; exact lists ⟨ds, .inr rfl, rfl⟩
      | tup ds =>
        cases es
        refine (pi_tup ha).run pins s σ H Rr I ⟨ρ, h, J, re, rh, ?_⟩
        rw [ev]
        intro J' H' v e1 rh' rv
        obtain ⟨p, vs, rfl, hq, z, rr⟩ := tup_st rv
        exact ⟨p, rfl, ⟨vs, hq Sub.refl⟩, q J' H' _ e1 rh' (itt_ok hq rr)⟩
      | ftup ds =>
        cases es
        refine (pi_tup ha).run pins s σ H Rr I ⟨ρ, h, J, re, rh, ?_⟩
        rw [ev]
        intro J' H' v e1 rh' rv
        obtain ⟨p, vs, rfl, hq, z, rr⟩ := ftup_st rv
        exact ⟨p, rfl, ⟨vs, hq Sub.refl⟩, q J' H' _ e1 rh' (itt_ok hq rr)⟩
      | ref i =>
        simp only [D.src] at es
        split at es
        · rename_i ys hys
          cases es
          refine (pi_list ha).run pins s σ H Rr I ⟨ρ, h, J, re, rh, ?_⟩
          rw [ev]
          intro J' H' v e1 rh' rv
          cases rv with
          | ref qi =>
            obtain ⟨o, u, h1', h2', h3⟩ := rh'.at qi
            rw [hys] at h1'; cases h1'
            cases h3 with
            | lst z rr => exact ⟨_, rfl, ⟨_, .inl (.inl h2')⟩, q J' H' _ e1 rh' (itl_ref qi)⟩
        · cases es
      | _ => cases es
  | bad => rw [ev] at q; exact False.elim q
  | err _ _ => rw [ev] at q; exact False.elim q
theorem rngOk_inv {i j : Int} (h : rngOk i j = true) : -(2 ^ 62) ≤ i ∧ i < 2 ^ 62 ∧ -(2 ^ 62) ≤ j ∧ j < 2 ^ 62 := by
  simp only [rngOk, Bool.and_eq_true, decide_eq_true_eq] at h
  exact ⟨h.1.1.1, h.1.1.2, h.1.2, h.2⟩
theorem R.step_inv {α β : Type} {r : R α} {f : α → Hh → R β} {P : R β → Prop} (q : P (r.bind f)) (hb : ¬ P .bad) (he : ∀ x h, ¬ P (.err x h)) : ∃ a h1, r = .ok a h1 ∧ P (f a h1) := by
  cases r with
  | ok a h1 => exact ⟨a, h1, rfl, q⟩
  | bad => exact absurd q hb
  | err x h => exact absurd q (he x h)
/-- what a walk's reading wants -/
def wI (K : PySem.W.Frag) (J : Jn) (H : Hp) (Rr : It → Hp → Prop) (r : R Src) : Prop := match r with
  | .ok src h' => ∀ J' H' it, Ext J H J' H' → RH K J' h' H' → ItOk K J' H' it src → Rr it H'
  | _ => False
theorem wI.step {α β : Type} {R1 : RelA α β} {f : Env → Hh → R α} {g : α → Hh → R Src} {Rr : It → Hp → Prop} {ρ : Env} {σ : L2.St} (re : RE K J H ρ σ) (rh : RH K J h H) (p : wI K J H Rr ((f ρ h).bind g)) :
    tG K R1 f σ H (fun b H1 => ∃ J1 h1 a, Ext J H J1 H1 ∧ RE K J1 H1 ρ σ ∧ RH K J1 h1 H1 ∧ R1 J1 H1 a b ∧ wI K J1 H1 Rr (g a h1)) := by
  refine ⟨ρ, h, J, re, rh, ?_⟩
  cases q : f ρ h with
  | ok a h1 =>
    rw [q, R.bind_ok] at p
    refine fun J1 H1 b e rh1 rl => ⟨J1, h1, a, e, re.ext e, rh1, rl, ?_⟩
    cases q2 : g a h1 with
    | ok src h2 => rw [q2] at p; exact fun J2 H2 it e2 rh2 ok => p J2 H2 it (e.trans rh rh1 e2) rh2 ok
    | bad => rw [q2] at p; exact p
    | err _ _ => rw [q2] at p; exact p
  | bad => rw [q] at p; exact p
  | err _ _ => rw [q] at p; exact p
theorem pi_rng {pp : Pos} (hg : Gl X "range") (hm : X.mg "range" = none) (hp : plainX a = true) (ha : SE X a pa) :
    PI X tg (.Call (.Name "range" pp) [a] [] pos) (tI X.K fun ρ h => (pa.v ρ h).bind fun x h1 => R.opt (x.isInt.bind fun n => if rngOk 0 n then some ⟨rngD 0 n, none⟩ else none) h1) := by
  have hs : starEach [a] X.env = [(false, eval a X.env)] := plain_star hp [] _
  refine (pi_range1 hg hm (pa_cons ha.v pa_nil hs) hs).imp fun σ H Rr ⟨ρ, h, J, re, rh, q⟩ => ?_
  refine (wI.step (R1 := rD X.K) (f := pa.v) re rh q).mono fun x H1 ⟨J1, h1, d, e1, re1, rh1, rx, q1⟩ => ?_
  cases d with
  | int n =>
    simp only [D.isInt, Option.bind_some] at q1
    split at q1
    · rename_i hz
      obtain ⟨_, _, z1, z2⟩ := rngOk_inv hz
      refine ⟨n, by rw [rx.int_inv], z1, z2, ?_⟩
      have := q1 J1 H1 (Itr 0 (n - 0).toNat) Ext.refl rh1 itr_ok
      rwa [Int.sub_zero] at this
    · exact False.elim q1
  | _ => exact False.elim q1
theorem pi_rng2 {pp : Pos} (hg : Gl X "range") (hm : X.mg "range" = none) (hp : plainX a = true) (hp2 : plainX b = true) (ha : SE X a pa) (hb : SE X b pb) :
    PI X tg (.Call (.Name "range" pp) [a, b] [] pos) (tI X.K fun ρ h => (pa.v ρ h).bind fun x h1 => (pb.v ρ h1).bind fun y h2 => R.opt (x.isInt.bind fun i => y.isInt.bind fun j => if rngOk i j then some ⟨rngD i j, none⟩ else none) h2) := by
  have hs2 : starEach [b] X.env = [(false, eval b X.env)] := plain_star hp2 [] _
  have hs : starEach [a, b] X.env = [(false, eval a X.env), (false, eval b X.env)] := by rw [plain_star hp, hs2]
  refine (pi_range2 hg hm (pa_cons ha.v (pa_cons hb.v pa_nil hs2) (plain_star hp _ _)) hs hs2).imp fun σ H Rr ⟨ρ, h, J, re, rh, q⟩ => ?_
  refine (wI.step (R1 := rD X.K) (f := pa.v) re rh q).mono fun x H1 ⟨J1, h1, d, e1, re1, rh1, rx, q1⟩ => ?_
  refine (wI.step (R1 := rD X.K) (f := pb.v) re1 rh1 q1).mono fun y H2 ⟨J2, h2, d2, e2, re2, rh2, ry, q2⟩ => ?_
  cases d with
  | int n =>
    cases d2 with
    | int m =>
      simp only [D.isInt, Option.bind_some] at q2
      split at q2
      · rename_i hz
        exact ⟨n, m, by rw [rx.int_inv, ry.int_inv], rngOk_inv hz, q2 J2 H2 _ Ext.refl rh2 itr_ok⟩
      · exact False.elim q2
    | _ => exact False.elim q2
  | _ => exact False.elim q2

theorem zipD_get {xs ys : List D} {i : Nat} {d : D} (e : (zipD xs ys)[i]? = some d) : ∃ x y, xs[i]? = some x ∧ ys[i]? = some y ∧ d = .tup [x, y] := by
  unfold zipD at e
  rw [List.getElem?_zipWith] at e
  split at e
  · rename_i x y hx hy; cases e; exact ⟨x, y, hx, hy, rfl⟩
  · cases e
theorem zipD_len (xs ys : List D) : xs.length ≤ (zipD xs ys).length ∨ ys.length ≤ (zipD xs ys).length := by
  unfold zipD; rw [List.length_zipWith]; omega
theorem two_ok {x y : V} : [x, y].length ≤ sizeLine := by show 2 ≤ sizeLine; decide
theorem itzT_ok {a b : Addr} {xs ys : List D} {vs ws : List V} (q : ∀ {J2 : Jn} {H2 : Hp}, Sub J H J2 H2 → SqT K H2 a vs) (r : RDs K J H xs vs) (q' : ∀ {J2 : Jn} {H2 : Hp}, Sub J H J2 H2 → SqT K H2 b ws) (r' : RDs K J H ys ws) :
    ItOk K J H (RZ.ItzT K a b) ⟨zipD xs ys, none⟩ := by
  refine ⟨fun {J2 h2 H2 i d} s rh _ hd => ?_, fun {J2 h2 H2} s rh _ => ⟨vs, ws, q s, q' s, by rw [← r.length, ← r'.length]; exact zipD_len xs ys⟩⟩
  obtain ⟨dx, dy, hx, hy, rfl⟩ := zipD_get hd
  obtain ⟨v, hv, rv⟩ := r.get hx
  obtain ⟨w, hw, rw'⟩ := r'.get hy
  refine ⟨⟨vs, ws, v, w, q s, q' s, hv, hw⟩, fun x H3 ⟨T, v', w', e1, nT, e2, f1, f2⟩ => ?_⟩
  have h1 := f1 vs (q s)
  have h2 := f2 ws (q' s)
  rw [hv] at h1; cases h1
  rw [hw] at h2; cases h2
  subst e1 e2
  exact ⟨Ext.laid nT, rh.laid nT, RD.newTup rh nT (.cons (rv.sub s) (.cons (rw'.sub s) .nil)) two_ok⟩
theorem itz_ok {a b : Addr} {xs ys : List D} {vs ws : List V} (q : ∀ {J2 : Jn} {H2 : Hp}, Sub J H J2 H2 → SqL K H2 a vs) (r : RDs K J H xs vs) (q' : ∀ {J2 : Jn} {H2 : Hp}, Sub J H J2 H2 → SqL K H2 b ws) (r' : RDs K J H ys ws) :
    ItOk K J H (Itz K a b) ⟨zipD xs ys, none⟩ := by
  refine ⟨fun {J2 h2 H2 i d} s rh _ hd => ?_, fun {J2 h2 H2} s rh _ => ⟨vs, ws, q s, q' s, by rw [← r.length, ← r'.length]; exact zipD_len xs ys⟩⟩
  obtain ⟨dx, dy, hx, hy, rfl⟩ := zipD_get hd
  obtain ⟨v, hv, rv⟩ := r.get hx
  obtain ⟨w, hw, rw'⟩ := r'.get hy
  refine ⟨⟨vs, ws, v, w, q s, q' s, hv, hw⟩, fun x H3 ⟨T, v', w', e1, nT, e2, f1, f2⟩ => ?_⟩
  have h1 := f1 vs (q s)
  have h2 := f2 ws (q' s)
  rw [hv] at h1; cases h1
  rw [hw] at h2; cases h2
  subst e1 e2
  exact ⟨Ext.laid nT, rh.laid nT, RD.newTup rh nT (.cons (rv.sub s) (.cons (rw'.sub s) .nil)) two_ok⟩
theorem lst_st2 {ds : List D} {v : V} (r : RD K J H (.lst ds) v) : ∃ a vs, v = .ref a ∧ (∀ {J2 : Jn} {H2 : Hp}, Sub J H J2 H2 → SqL K H2 a vs) ∧ RDs K J H ds vs := by
  cases r with | lst n m q z r => exact ⟨_, _, rfl, fun s => .inl (.inl (s.l _ _ n m q).2.2), r⟩
theorem pi_zipS {pp tp : Pos} {elts : List Expr} {kk : Nat} (hg : Gl X "zip") (hm : X.mg "zip" = none) (hp : plainX a = true) (hp2 : plainX b = true) (ha : SE X a pa) (hb : SE X b pb) :
    PI X (.Tuple elts kk tp) (.Call (.Name "zip" pp) [a, b] [] pos) (tI X.K fun ρ h => (pa.v ρ h).bind fun x h1 => (pb.v ρ h1).bind fun y h2 => R.opt (zipSrc x y) h2) := by
  have hs2 : starEach [b] X.env = (false, eval b X.env) :: starEach [] X.env := plain_star hp2 [] _
  refine (RZ.pi_zipA hg hm (pa_cons ha.v (pa_cons hb.v pa_nil hs2) (plain_star hp _ _)) (plain_star hp _ _) (by rw [hs2]; rfl)).imp fun σ H Rr ⟨ρ, h, J, re, rh, q⟩ => ?_
  refine (wI.step (R1 := rD X.K) (f := pa.v) re rh q).mono fun x H1 ⟨J1, h1, d, e1, re1, rh1, rx, q1⟩ => ?_
  refine (wI.step (R1 := rD X.K) (f := pb.v) re1 rh1 q1).mono fun y H2 ⟨J2, h2, d2, e2, re2, rh2, ry, q2⟩ => ?_
  have rx := rx.ext e2
  cases hz : zipSrc d d2 with
  | none => rw [hz] at q2; exact False.elim q2
  | some src =>
    rw [hz] at q2
    unfold zipSrc at hz
    split at hz
    · cases hz
      obtain ⟨p, vs, rfl, hq, z, rr⟩ := tup_st rx
      obtain ⟨p', ws, rfl, hq', z', rr'⟩ := tup_st ry
      exact ⟨p, p', vs, ws, rfl, .inr ⟨hq Sub.refl, hq' Sub.refl, q2 J2 H2 _ Ext.refl rh2 (itzT_ok hq rr hq' rr')⟩⟩
    · cases hz
      obtain ⟨p, vs, rfl, hq, rr⟩ := lst_st2 rx
      obtain ⟨p', ws, rfl, hq', rr'⟩ := lst_st2 ry
      exact ⟨p, p', vs, ws, rfl, .inl ⟨hq Sub.refl, hq' Sub.refl, q2 J2 H2 _ Ext.refl rh2 (itz_ok hq rr hq' rr')⟩⟩
    · cases hz
end
end PV
end

section
set_option maxRecDepth 100000
namespace PV
open L2 PySem PySem.Spec PyProof.Rows
section
variable {X : Cx} {e x a b tg : Expr} {p pa pb pc : P} {pos : Pos} {K : PySem.W.Frag} {J : Jn} {H : Hp} {h : Hh}

/-! ### targets -/
/-- storing an item -/
def gD (K : PySem.W.Frag) (t : Tg) (vs : List Nat) : TG := fun v σ H Q => ∃ ρ ρ' h J d, RE K J H ρ σ ∧ RH K J h H ∧ RD K J H d v ∧ t.put d ρ = some ρ' ∧ ∀ σ', RE K J H ρ' σ' → (∀ j, j ∉ vs → σ'[j]? = σ[j]?) → σ'.length = σ.length → Q σ' H
structure ST (X : Cx) (e : Expr) (t : Tg) (vs : List Nat) : Prop where
  run : PG X e (gD X.K t vs)
theorem st_v {i : Nat} {y : Str} (hN : X.N.Nodup) (hi : X.N[i]? = some y) (hx : L2.Loc X.env.scope y) (hf : X.fn y = true ∨ X.env.scope.names.lookup y = some .local) : ST X (.Name y pos) (.v i) [i] := by
  refine ⟨(pg_name hN hi hx hf).imp fun v σ H Q ⟨ρ, ρ', h, J, d, re, rh, rd, e, q⟩ => ?_⟩
  cases e
  exact q _ (re.set i rd) (fun j hj => by rw [List.getElem?_set_ne]; intro z; subst z; exact hj (by simp)) (by simp)
/-- several names -/
structure STs (X : Cx) (es : List Expr) (is : List Nat) : Prop where
  run : PGs X es (fun vs σ H Q => ∃ ρ ρ' h J ds, RE X.K J H ρ σ ∧ RH X.K J h H ∧ RDs X.K J H ds vs ∧ setAll is ds ρ = some ρ' ∧ ∀ σ', RE X.K J H ρ' σ' → (∀ j, j ∉ is → σ'[j]? = σ[j]?) → σ'.length = σ.length → Q σ' H)
  noStar : ∀ e ∈ es, ∃ y p, e = .Name y p
  len : es.length = is.length
theorem _root_.L2.PGs.imp {X : Cx} {e : List Expr} {t t' : TGs} (h : PGs X e t) (i : ∀ v σ H Q, t' v σ H Q → t v σ H Q) : PGs X e t' := ⟨fun p s σ H v u Q I r q => h.run p s σ H v u Q I r (i v σ H Q q)⟩
theorem sts_nil : STs X [] [] := by
  refine ⟨pgs_nil.imp fun v σ H Q ⟨ρ, ρ', h, J, ds, re, rh, rs, e, q⟩ => ?_, fun _ z => (by cases z), rfl⟩
  cases ds with
  | nil => cases rs; cases e; exact ⟨rfl, q _ re (fun _ _ => rfl) rfl⟩
  | cons _ _ => cases e
theorem sts_cons {i : Nat} {y : Str} {es : List Expr} {is : List Nat} (hN : X.N.Nodup) (hi : X.N[i]? = some y) (hx : L2.Loc X.env.scope y) (hf : X.fn y = true ∨ X.env.scope.names.lookup y = some .local) (hs : STs X es is) : STs X (.Name y pos :: es) (i :: is) := by
  refine ⟨(pgs_cons (pg_name (pos := pos) hN hi hx hf) hs.run rfl).imp fun v σ H Q ⟨ρ, ρ', h, J, ds, re, rh, rs, e, q⟩ => ?_, fun e he => ?_, by simp [hs.len]⟩
  · cases ds with
    | nil => cases e
    | cons d ds =>
      cases rs with
      | cons r t =>
        refine ⟨_, _, rfl, ?_⟩
        refine ⟨ρ.set i (some d), ρ', h, J, ds, re.set i r, rh, t, e, fun σ' re' hk hl => q σ' re' (fun j hj => ?_) (by rw [hl]; simp)⟩
        simp only [List.mem_cons, not_or] at hj
        rw [hk j hj.2, List.getElem?_set_ne (fun z => hj.1 z.symm)]
  · (rcases List.mem_cons.mp he with rfl | he)
    · exact ⟨_, _, rfl⟩
    · exact hs.noStar e he
theorem each_names : ∀ {es : List Expr} (env : PySem.Env), (∀ e ∈ es, ∃ y p, e = Expr.Name y p) → (assignEach es env).length = es.length ∧ (assignEach es env).findIdx? (·.1) = none
  | [], _, _ => ⟨rfl, rfl⟩
  | e :: es, env, h => by
    obtain ⟨y, p, rfl⟩ := h e List.mem_cons_self
    obtain ⟨h1, h2⟩ := each_names (es := es) env fun e he => h e (List.mem_cons_of_mem _ he)
    constructor
    · show (assignEach es env).length + 1 = es.length + 1
      rw [h1]
    · show ((false, assign (.Name y p) env) :: assignEach es env).findIdx? (·.1) = none
      rw [List.findIdx?_cons]
      simp [h2]
theorem setAll_len : ∀ {is : List Nat} {ds : List D} {ρ ρ' : Env}, setAll is ds ρ = some ρ' → ds.length = is.length
  | [], [], _, _, _ => rfl
  | [], _ :: _, _, _, h => by cases h
  | _ :: _, [], _, _, h => by cases h
  | i :: is, d :: ds, ρ, ρ', h => by simp [setAll_len (is := is) (ds := ds) h]
theorem st_tu {es : List Expr} {is : List Nat} {k : Nat} (hc : X.calm = true) (hs : STs X es is) : ST X (.Tuple es k pos) (.tu is) is := by
  obtain ⟨h1, h2⟩ := each_names X.env hs.noStar
  refine ⟨⟨fun pins s σ H v u Q I r ⟨ρ, ρ', h, J, d, re, rh, rd, e, q⟩ => ?_⟩⟩
  cases d with
  | tup ds =>
    refine (pg_tup (n := is.length) hc hs.run (h1.trans hs.len) h2).run pins s σ H v u Q I r ?_
    obtain ⟨a, vs, rfl, hq, z, rs⟩ := rd.tup_inv
    exact ⟨a, vs, rfl, hq, by rw [← rs.length]; exact setAll_len e, ρ, ρ', h, J, ds, re, rh, rs, e, q⟩
  | lst ds =>
    refine (pg_lst (n := is.length) hc hs.run (h1.trans hs.len) h2).run pins s σ H v u Q I r ?_
    obtain ⟨a, vs, rfl, hq, z, rs⟩ := res_inv rh rfl rd
    exact ⟨a, vs, rfl, hq, by rw [← rs.length]; exact setAll_len e, ρ, ρ', h, J, ds, re, rh, rs, e, q⟩
  | _ => cases e

/-! ### comprehensions -/
theorem wipe_get {σ : L2.St} : ∀ {vs : List Nat} {j : Nat}, j ∉ vs → (wipe σ vs)[j]? = σ[j]?
  | [], _, _ => rfl
  | v :: vs, j, h => by
    simp only [List.mem_cons, not_or] at h
    unfold wipe
    rw [List.getElem?_set_ne (fun z => h.1 z.symm), wipe_get h.2]
theorem wipe_in {σ : L2.St} : ∀ {vs : List Nat} {j : Nat}, j ∈ vs → j < σ.length → (wipe σ vs)[j]? = some none
  | v :: vs, j, h, hl => by
    unfold wipe
    by_cases hj : v = j
    · subst hj; rw [List.getElem?_set_self (by rw [wipe_length]; exact hl)]
    · rw [List.getElem?_set_ne hj]
      exact wipe_in ((List.mem_cons.mp h).resolve_left fun z => hj z.symm) hl
theorem wipe_same {σ σ' : L2.St} {vs : List Nat} (h : ∀ j, j ∉ vs → σ'[j]? = (wipe σ vs)[j]?) (hl : σ'.length = (wipe σ vs).length) : wipe σ' vs = wipe σ vs := by
  have hl2 : σ'.length = σ.length := by rw [hl, wipe_length]
  apply List.ext_getElem?
  intro j
  by_cases hj : j ∈ vs
  · by_cases hb : j < σ.length
    · rw [wipe_in hj (by rw [hl2]; exact hb), wipe_in hj hb]
    · rw [List.getElem?_eq_none (by rw [wipe_length, hl2]; omega), List.getElem?_eq_none (by rw [wipe_length]; omega)]
  · rw [wipe_get hj, h j hj]
/-- the names ahead of a comprehension, its own forgotten -/
def wipeD : List Nat → Env → Env
  | [], ρ => ρ
  | v :: vs, ρ => (wipeD vs ρ).set v none
theorem RE.wipe {ρ : Env} {σ : L2.St} (r : RE K J H ρ σ) : ∀ vs : List Nat, RE K J H (wipeD vs ρ) (wipe σ vs)
  | [] => r
  | v :: vs => by
    have ih := RE.wipe r vs
    unfold wipeD L2.wipe
    refine ⟨by simp [ih.len], fun j d q => ?_⟩
    by_cases hj : v = j
    · subst hj
      by_cases hl : v < (wipeD vs ρ).length
      · rw [List.getElem?_set_self hl] at q; cases q
      · rw [List.getElem?_eq_none (by simpa using hl)] at q; cases q
    · rw [List.getElem?_set_ne hj] at q
      obtain ⟨w, h1, h2⟩ := ih.get j d q
      exact ⟨w, by rw [List.getElem?_set_ne hj]; exact h1, h2⟩
theorem Sub.re {J J' : Jn} {H H' : Hp} {ρ : Env} {σ : L2.St} (s : Sub J H J' H') (r : RE K J H ρ σ) : RE K J' H' ρ σ := ⟨r.len, fun i d q => let ⟨v, a, b⟩ := r.get i d q; ⟨v, a, b.sub s⟩⟩
theorem setAll_of : ∀ {is : List Nat} {ds : List D} {ρ1 ρ2 : Env}, (∀ j, j ∉ is → ρ1[j]? = ρ2[j]?) → ρ1.length = ρ2.length → setAll is ds ρ1 = setAll is ds ρ2
  | [], [], ρ1, ρ2, h, _ => by
    have : ρ1 = ρ2 := List.ext_getElem? fun j => h j (by simp)
    rw [this]
  | [], _ :: _, _, _, _, _ => rfl
  | _ :: _, [], _, _, _, _ => rfl
  | i :: is, d :: ds, ρ1, ρ2, h, hl => by
    unfold setAll
    refine setAll_of (fun j hj => ?_) (by simp [hl])
    by_cases e : i = j
    · subst e
      rw [List.getElem?_set, List.getElem?_set, hl]
      simp
    · rw [List.getElem?_set_ne e, List.getElem?_set_ne e]
      exact h j (by simp only [List.mem_cons, not_or]; exact ⟨fun z => e z.symm, hj⟩)
theorem wipeD_get {ρ : Env} : ∀ {vs : List Nat} {j : Nat}, j ∉ vs → (wipeD vs ρ)[j]? = ρ[j]?
  | [], _, _ => rfl
  | v :: vs, j, h => by
    simp only [List.mem_cons, not_or] at h
    unfold wipeD
    rw [List.getElem?_set_ne (fun z => h.1 z.symm), wipeD_get h.2]
theorem wipeD_len {ρ : Env} : ∀ {vs : List Nat}, (wipeD vs ρ).length = ρ.length
  | [] => rfl
  | v :: vs => by unfold wipeD; rw [List.length_set, wipeD_len]
theorem put_wipe (t : Tg) (d : D) (ρ : Env) : t.put d (wipeD t.slots ρ) = t.put d ρ := by
  cases t with
  | v i => simp [Tg.put, Tg.slots, wipeD]
  | tu is =>
    unfold Tg.put Tg.slots
    cases d with
    | tup xs => exact setAll_of (fun j hj => wipeD_get hj) wipeD_len
    | lst xs => exact setAll_of (fun j hj => wipeD_get hj) wipeD_len
    | _ => rfl
/-- the reading of a comprehension is what the rule wants -/
theorem lc_read {t : Tg} {f : Env → Hh → R Src} {pt pe : P} {σ : L2.St} {Q : VK} (hq : tF K (fun ρ h => (f ρ h).bind fun s h1 => if sizeOk s.items.length then lcLoop s.good (lcTurn t pt pe ρ) s.items [] h1 else .bad) σ H Q) :
    tLc (tI K f) (gD K t t.slots) (tG K rB pt.t) (tG K (rD K) pe.v) t.slots σ H Q := by
  obtain ⟨ρ, h, J, re, rh, q⟩ := hq
  refine ⟨ρ, h, J, re, rh, ?_⟩
  dsimp only at q
  cases ev : f ρ h with
  | bad => rw [ev] at q; exact q
  | err _ _ => rw [ev] at q; exact q
  | ok src h1 =>
    rw [ev, R.bind_ok] at q
    cases hsi : sizeOk src.items.length with
    | false => rw [hsi] at q; exact False.elim q
    | true =>
    rw [hsi] at q
    simp only [if_true] at q
    intro J1 H1 it e1 rh1 itok D nD
    have nDH : H D = none := by
      cases hp : H D with
      | none => rfl
      | some u =>
        exfalso
        by_cases n : D ∈ J.l
        · obtain ⟨m, hm, _⟩ := e1.pre
          obtain ⟨u', h2⟩ := rh1.inl (a := D) (by rw [hm]; exact List.mem_append_left _ n)
          rw [nD] at h2; cases h2
        · have := e1.keep D u n hp; rw [nD] at this; cases this
    -- the loop's word: so many items are gone, what is made so far lies at D
    let W : Nat → Nat → Hp → Prop := fun i m H2 => m = src.items.length - i ∧ i ≤ src.items.length ∧ ∃ J2 h2 acc vs, J2.z = D :: J.z ∧ Ext J H ⟨J2.l, J.z⟩ H2 ∧ Sub J1 H1 J2 H2 ∧ RH K J2 h2 H2 ∧ H2 D = some (.lst vs) ∧ vs.length ≤ i ∧ vs.length ≤ sizeLine ∧ RDs K J2 H2 acc vs ∧
      (match lcLoop src.good (lcTurn t pt pe ρ) (src.items.drop i) acc h2 with
        | .ok (.lst ds) h' => ∀ J' H' a vs, Ext J H ⟨J'.l, J.z⟩ H' → J'.z = a :: J.z → RH K J' h' H' → H' a = some (.lst vs) → vs.length ≤ sizeLine → RDs K J' H' ds vs → H a = none → Q (.ref a) H'
        | _ => False)
    refine ⟨W, ⟨src.items.length, by simp, Nat.zero_le _, J1.hide D, h1, [], [], by rw [← e1.z], ?_, (Sub.hide nD).trans (Ext.laid nD).sub, rh1.hide nD, upd_same, Nat.zero_le _, Nat.zero_le _, .nil, q⟩, fun i m H2 hW => ?_⟩
    · exact ⟨rfl, e1.pre, fun a o n q => by rw [upd_ne (ne_of_none (e1.keep a o n q) nD)]; exact e1.keep a o n q⟩
    · obtain ⟨rfl, hi', J2, h2, acc, vs, ez, e2, s2, rh2, hD, hv, hsz, rs, q⟩ := hW
      cases hd : src.items[i]? with
      | none =>
        -- the end
        have hlen : i = src.items.length := by have := List.getElem?_eq_none_iff.mp hd; omega
        subst hlen
        rw [List.drop_eq_nil_of_le (Nat.le_refl _)] at q
        unfold lcLoop at q
        split at q
        · rename_i ds h' heq
          split at heq
          · rename_i hgood
            cases heq
            exact .inl ⟨itok.stop s2 rh2 hgood, q J2 H2 D vs e2 ez rh2 hD hsz rs nDH⟩
          · cases heq
        · exact False.elim q
      | some d =>
        have hlt : i < src.items.length := (List.getElem?_eq_some_iff.mp hd).1
        rw [List.drop_eq_getElem_cons hlt] at q
        have hde : src.items[i] = d := by rw [List.getElem?_eq_getElem hlt] at hd; exact Option.some.inj hd
        rw [hde] at q
        unfold lcLoop at q
        cases hgood : src.good h2 with
        | false => rw [hgood] at q; exact False.elim q
        | true =>
          rw [hgood] at q
          simp only [if_true] at q
          obtain ⟨g1, g2⟩ := itok.go s2 rh2 hgood hd
          refine .inr ⟨g1, fun H' => ∃ m', m' < src.items.length - i ∧ W (i + 1) m' H', fun H' z => z, fun xv H3 y3 => ?_⟩
          obtain ⟨e3, rh3, rd3⟩ := g2 xv H3 y3
          have hD3 : H3 D = some (.lst vs) := e3.keep D _ (rh2.apart D (by rw [ez]; exact List.mem_cons_self)) hD
          cases ht2 : t.put d ρ with
          | none => simp only [lcTurn, ht2] at q
          | some ρ' =>
            simp only [lcTurn, ht2] at q
            have re3 : RE K J2 H3 ρ σ := (re.ext e1 |> Sub.re s2).ext e3
            have sub3 : Sub J1 H1 J2 H3 := s2.trans e3.sub
            have ext3 : Ext J H ⟨J2.l, J.z⟩ H3 := ⟨rfl, e2.pre, fun a o n q => e3.keep a o (e2.notin n q) (e2.keep a o n q)⟩
            refine ⟨_, ρ', h2, J2, d, re3.wipe _, rh3, rd3, by rw [put_wipe]; exact ht2, fun σ2 re4 hk hl => ⟨wipe_same hk hl, ?_⟩⟩
            -- the test, the element
            have nx : ∀ (J5 : Jn) (h5 : Hh) (H5 : Hp) (acc5 : List PV.D) (vs5 : List V), Ext J2 H3 J5 H5 → RH K J5 h5 H5 → (∀ u, Ext J H ⟨J5.l, J.z⟩ (upd H5 D u)) ∧ Sub J1 H1 J5 H5 := fun J5 h5 H5 acc5 vs5 e5 rh5 => by
              refine ⟨fun u => ⟨rfl, ?_, fun a o n q => ?_⟩, sub3.trans e5.sub⟩
              · obtain ⟨m1, hm1, f1⟩ := ext3.pre
                obtain ⟨m2, hm2, f2⟩ := e5.pre
                have hm1 : J2.l = J.l ++ m1 := hm1
                refine ⟨m1 ++ m2, by show J5.l = _; rw [hm2, hm1, List.append_assoc], fun a ha => ?_⟩
                rcases List.mem_append.mp ha with z | z
                · exact f1 a z
                · cases hp : H a with
                  | none => rfl
                  | some w =>
                    exfalso
                    by_cases n : a ∈ J.l
                    · obtain ⟨w', h2'⟩ := rh3.inl (a := a) (by rw [hm1]; exact List.mem_append_left _ n)
                      rw [f2 a z] at h2'; cases h2'
                    · have := ext3.keep a w n hp; rw [f2 a z] at this; cases this
              · have hne : a ≠ D := by rintro rfl; rw [nDH] at q; cases q
                rw [upd_ne hne]
                exact e5.keep a o (ext3.notin n q) (ext3.keep a o n q)
            refine ⟨ρ', h2, J2, re4, rh3, ?_⟩
            cases et : pt.t ρ' h2 with
            | bad => rw [et] at q; exact False.elim q
            | err _ _ => rw [et] at q; exact False.elim q
            | ok okb h3 =>
              rw [et, R.bind_ok] at q
              intro J4 H4 bb e4 rh4 hbb
              have hbb : okb = bb := hbb
              subst hbb
              have hD4 : H4 D = some (.lst vs) := e4.keep D _ (rh3.apart D (by rw [ez]; exact List.mem_cons_self)) hD3
              cases okb with
              | false =>
                simp only [Bool.false_eq_true, if_false] at q ⊢
                obtain ⟨n1, n2⟩ := nx J4 h3 H4 acc vs e4 rh4
                refine ⟨_, by omega, rfl, hlt, J4, h3, acc, vs, by rw [e4.z, ez], ?_, n2, rh4, hD4, by omega, hsz, (rs.ext e3).ext e4, q⟩
                have := n1 (.lst vs)
                have hu : upd H4 D (.lst vs) = H4 := by funext a; unfold upd; split <;> simp_all
                rwa [hu] at this
              | true =>
                simp only [if_true] at q ⊢
                refine ⟨ρ', h3, J4, re4.ext e4, rh4, ?_⟩
                cases ee : pe.v ρ' h3 with
                | bad => rw [ee] at q; exact False.elim q
                | err _ _ => rw [ee] at q; exact False.elim q
                | ok y h4 =>
                  rw [ee] at q
                  simp only [R.bind_ok] at q
                  intro J5 H5 yv e5 rh5 ry
                  have hz4 : D ∈ J4.z := by rw [e4.z, ez]; exact List.mem_cons_self
                  have hz5 : D ∈ J5.z := by rw [e5.z]; exact hz4
                  have hD5 : H5 D = some (.lst vs) := e5.keep D _ (rh4.apart D hz4) hD4
                  have e45 : Ext J2 H3 J5 H5 := e4.trans rh3 rh4 e5
                  obtain ⟨n1, n2⟩ := nx J5 h4 H5 acc vs e45 rh5
                  have hlen : vs.length < sizeLine := by have := size_of hsi; omega
                  refine ⟨vs, hD5, hlen, _, by omega, rfl, hlt, J5, h4, acc ++ [y], vs ++ [yv], by rw [e5.z, e4.z, ez], n1 _, n2.trans (Sub.writeZ hz5), rh5.writeZ hz5, upd_same, by simp; omega, by simp; omega, ?_, q⟩
                  exact (((rs.ext e3).ext e45).append (.cons ry .nil)).sub (Sub.writeZ hz5)
theorem se_lcF {elt iter : Expr} {ifs : List Expr} {scope : Scope} {own : List (Str × Nat)} {t : Tg} {f : Env → Hh → R Src} {pt pe : P} {tt : TT} (hc : X.calm = true) (hN : X.N.Nodup) (hi : PI X tg iter (tI X.K f)) (ok : BlkOk X.N X.env.scope scope own) (hown : own.map (·.2) = t.slots)
    (hg : ∀ (s : Shared) (H : Hp) (C : Addr) (cl : List (Str × Addr)) (fp : List Addr), ST (X.blk s H scope (compEnvC scope cl C X.env) fp) tg t t.slots)
    (ht : ∀ (s : Shared) (H : Hp) (C : Addr) (cl : List (Str × Addr)) (fp : List Addr), PTs (X.blk s H scope (compEnvC scope cl C X.env) fp) ifs (tG X.K rB pt.t))
    (he : ∀ (s : Shared) (H : Hp) (C : Addr) (cl : List (Str × Addr)) (fp : List Addr), PE (X.blk s H scope (compEnvC scope cl C X.env) fp) elt (tG X.K (rD X.K) pe.v)) (hs : ∀ x, foldedSetIterable iter X.env x = pure x) :
    PE X (.ListComp elt [⟨tg, iter, ifs, 0⟩] scope pos) (tF X.K fun ρ h => (f ρ h).bind fun s h1 => if sizeOk s.items.length then lcLoop s.good (lcTurn t pt pe ρ) s.items [] h1 else .bad) := by
  refine (pe_lc (g := gD X.K t t.slots) (tt := tG X.K rB pt.t) (te := tG X.K (rD X.K) pe.v) hc hN hi ok (fun s H C cl fp => (hg s H C cl fp).run) ht he hs).imp fun σ H Q q => ?_
  rw [hown]
  exact lc_read q
end
end PV
end

section
set_option maxRecDepth 100000
/-! PvY: a caught exception that stays known: the clause's name, its field, isinstance of it. -/
namespace PV
open PySem PySem.Spec PyProof.Rows L2 PV
theorem exD_ok {P : Program} {w : World} {H : Hp} {hp : Heap} {a : Addr} {cls : Value} {d : Option Addr} {ob : Obj} {fl : Array Value} (q : hp.get? a = some ob) (z : L2N.Zn cls d ob) (r : ob.data = .fields fl) : ObjOk P w H hp a (ExD cls d a) :=
  ⟨⟨ob, fl, q, z, r⟩, ⟨ob, q⟩, fun _ _ ⟨ob2, fl2, q2, z2, r2⟩ keep => ⟨ob2, fl2, keep ob2 q2, z2, r2⟩⟩
section
variable {X : Cx} {pins : List (Addr × Obj)} {σ : L2.St} {H : Hp} {s t : Shared} {a : Addr} {cls : Value} {d : Option Addr} {B : Heap}
/-- the exception as it lies before a clause -/
structure Seen (X : Cx) (pins : List (Addr × Obj)) (σ : L2.St) (H : Hp) (t : Shared) (a : Addr) (cls : Value) (d : Option Addr) : Prop where
  inv : L2.Inv X pins σ H t
  obj : ∃ ob fl, t.heap.get? a = some ob ∧ L2N.Zn cls d ob ∧ ob.data = .fields fl
  na : H a = none
  nL : a ≠ X.env.locals
  nF : a ∉ X.fs
  n0 : ∀ o, X.s_0.heap.get? a = some o → a ∈ X.ex
  nc : ∀ x c, X.env.cells.lookup x = some c → c ≠ a
  np : ∀ p ∈ X.pn ++ pins, p.1 ≠ a
theorem seen_of (I : L2.Inv X pins σ H s) (stk : X.stack = X.env :: X.outer) (frm : X.env.frame = some X.env.locals) (gr : ∀ b o, s.heap.get? b = some o → b ∉ frs X.stack → B.get? b = some o) (fly : HandSPX.FlyingZ B (X.env :: X.outer) a (L2N.Zn cls d) t.heap)
    (up : s.heap.UpToSlots t.heap) (os : t.os = s.os) (ag : AllBare t.gens) (na : H a = none) : Seen X pins σ H t a cls d := by
  have lies := fly.there
  obtain ⟨ob, fl, q, z, r⟩ := fly.there
  have out : a ∉ frs (X.env :: X.outer) := by
    intro mem
    (obtain ⟨_, ob2, q2, no⟩ := fly.2.2.1.mem mem)
    (cases q.symm.trans q2)
    exact no fl r
  have gone : s.heap.get? a = none := by
    cases e : s.heap.get? a with
    | none => rfl
    | some ob2 =>
      have e2 := gr a ob2 e (by rw [stk]; exact out)
      (cases fly.2.1.symm.trans e2)
  have new : ∀ {b : Addr} {o : Obj}, s.heap.get? b = some o → b ≠ a := fun {b o} e z => by
    (rw [z, gone] at e)
    cases e
  refine ⟨I.landed gr fly.1 up os ag, lies, na, ?_, ?_, ?_, ?_, ?_⟩
  · intro z
    exact out (List.mem_filterMap.mpr ⟨X.env, .head _, by rw [frm, z]⟩)
  · intro mem
    (obtain ⟨en, m1, m2⟩ := List.mem_filterMap.mp mem)
    exact out (List.mem_filterMap.mpr ⟨en, .tail _ m1, m2⟩)
  · intro o e
    by_cases hx : a ∈ X.ex
    · exact hx
    · (obtain ⟨o2, e2⟩ := I.base.there a o e hx)
      cases gone.symm.trans e2
  · intro x c e
    (obtain ⟨v, o2, e2, _⟩ := I.cell x c e)
    exact new e2
  · exact fun p hp => new (I.pin p hp).1
/-- .. tracked from now on -/
theorem Seen.known (S : Seen X pins σ H t a cls d) : L2.Inv X pins σ (upd H a (ExD cls d a)) t := by
  (obtain ⟨I, ⟨ob, fl, q, z, r⟩, na, nL, nF, n0, nc, np⟩ := S)
  have un : ∀ {b : Addr}, b ≠ a → upd H a (ExD cls d a) b = H b := fun ne => upd_ne ne
  have ne : ∀ {b : Addr} {o : HO}, H b = some o → b ≠ a := fun e => ne_of_none e na
  constructor
  · exact I.ok
  · exact I.os
  · exact I.bare
  · have U := I.base
    constructor
    · exact U.keep
    · exact U.slot
    · intro b o e n hx
      have : b ≠ a := by
        rintro rfl
        exact hx (n0 o e)
      rw [un this]
      exact U.free b o e n hx
    · exact U.there
    · intro b xs e
      have e2 := U.tups b xs e
      rw [un (ne e2)]
      exact e2
    · intro b o u e
      have e2 := U.frzs b o u e
      rw [un (ne e2)]
      exact e2
    · intro b ps e
      (obtain ⟨m, e2⟩ := U.tbls b ps e)
      exact ⟨m, by rw [un (ne e2)]; exact e2⟩
  · exact I.loc
  · exact I.cell
  · rw [un nL.symm]
    exact I.free
  · intro x c e
    rw [un (nc x c e)]
    exact I.freeC x c e
  · intro p hp
    (obtain ⟨p1, p2, p3⟩ := I.pin p hp)
    exact ⟨p1, by rw [un (np p hp)]; exact p2, p3⟩
  · exact I.hok.laidN (fun _ _ e => e) na (exD_ok q z r)
  · exact I.len
/-- into a suite, nothing pinned anew; and out of it -/
theorem in_suite (I : L2.Inv X pins σ H t) : L2.Inv (X.suite a (X.pn ++ pins)) [] σ H t :=
  ⟨I.ok.suite _ _, I.os, I.bare, I.base, I.loc, I.cell, I.free, I.freeC, fun p hp => I.pin p (by simpa using hp), I.hok, I.len⟩
theorem off_suite {pi : List (Addr × Obj)} (k : X.Ok) (I : L2.Inv (X.suite a (X.pn ++ pins)) pi σ H t) : L2.Inv X pins σ H t :=
  ⟨k, I.os, I.bare, I.base, I.loc, I.cell, I.free, I.freeC, fun p hp => I.pin p (List.mem_append_left _ hp), I.hok, I.len⟩
end

/-- what 'except x as n' wishes of the body's exception: slot i is n's, the exception is tracked in the suite and behind it -/
def wKeep (K : PySem.W.Frag) (c : Value) (i : Nat) (ts : Addr → TS) (Wo : WX) (D : Ends) : WX := fun cls d σ H => ∃ b, PySem.W.exmOne K cls c = some b ∧ (b = false → Wo cls d σ H) ∧
  (b = true → ∀ a, H a = none → ts a ⟨fun σ' H' => D.nx (σ'.set i none) H', D.rt, fun σ' H' => D.bk (σ'.set i none) H', fun σ' H' => D.ct (σ'.set i none) H'⟩ (σ.set i (some (.ref a))) (upd H a (ExD cls d a)))
section
variable {X : Cx} {x n : Str} {c : Value} {i : Nat} {body rest : List Stmt} {one : Stmt} {np pos cp : Pos} {ts : Addr → TS} {Wo : WX} {pins : List (Addr × Obj)} {D : Ends} {s : Shared} {u : Value} {σ : L2.St} {H : Hp}
/-- from the suite's end to the statement's -/
theorem keep_end {a : Addr} {f : Flow} (nd : X.N.Nodup) (hi : X.N[i]? = some n) (hn : X.env.kindOf n = some .local) (k : X.Ok)
    (q : SP (X.suite a (X.pn ++ pins)) [] ⟨fun σ' H' => D.nx (σ'.set i none) H', D.rt, fun σ' H' => D.bk (σ'.set i none) H', fun σ' H' => D.ct (σ'.set i none) H'⟩ f s) :
    wpAny (model X.prog X.w) X.A (do bindName X.env n .none; unbindBehindTheSuite X.env n cp) (fun _ s' => SP X pins D f s') X.xe s := by
  cases f with
  | ret v =>
    (obtain ⟨w, σ1, H1, I1, rv, q1⟩ := q)
    exact gone_ok (off_suite k I1) nd hi hn fun s' I2 => ⟨w, _, _, I2, rv, q1⟩
  | next =>
    (obtain ⟨σ1, H1, I1, q1⟩ := q)
    exact gone_ok (off_suite k I1) nd hi hn fun s' I2 => ⟨_, _, I2, q1⟩
  | brk =>
    (obtain ⟨σ1, H1, I1, q1⟩ := q)
    exact gone_ok (off_suite k I1) nd hi hn fun s' I2 => ⟨_, _, I2, q1⟩
  | cont =>
    (obtain ⟨σ1, H1, I1, q1⟩ := q)
    exact gone_ok (off_suite k I1) nd hi hn fun s' I2 => ⟨_, _, I2, q1⟩
/-- from the throw to the clauses -/
def hitP (X : Cx) (pins : List (Addr × Obj)) (D : Ends) (hs : List ExceptHandler) : Value → Shared → Prop := fun e s1 =>
  wpAny (model X.prog X.w) X.A (noteFrame e X.env) (fun _ s2 => wpAny (model X.prog X.w) X.A (setFlight e none) (fun _ s3 => wpAny (model X.prog X.w) X.A (handleBy e X.env hs) (SP X pins D) X.xe s3) X.xe s2) X.xe s1
theorem keep_hit (stk : X.stack = X.env :: X.outer) (frm : X.env.frame = some X.env.locals) (nd : X.N.Nodup) (hi : X.N[i]? = some n) (hn : X.env.kindOf n = some .local) (named : Names X x c) (tk : L2N.Takes X Wo) (kx : X.Ok)
    (hsu : ∀ (a : Addr) (pn : List (Addr × Obj)), PSs (X.suite a pn) (one :: rest) (ts a)) (t : L2N.XE (X.tr (X.pn ++ pins) (hitP X pins D [.ExceptHandler (some (.Name x np)) (some n) (one :: rest) cp])) (wKeep X.K c i ts Wo D) u s) :
    hitP X pins D [.ExceptHandler (some (.Name x np)) (some n) (one :: rest) cp] u s := by
  (obtain ⟨a, B, t0, pins2, σ1, H1, cls, d, eu, I0, gr, up0, sky, na, os, ag, b, em, no, yes⟩ := t)
  subst eu
  have I : L2.Inv X pins σ1 H1 t0 := I0.ofTry kx
  have frs1 : X.A.frames = some (X.env :: X.outer) := kx.frames.trans (congrArg some stk)
  have sky1 : Sky B (X.env :: X.outer) a (L2N.Zn cls d) X.env.locals s.heap := stk ▸ sky
  unfold hitP
  refine L2N.Sky.land L2N.Zn.steady frs1 frm sky1 fun hp fly up1 => ?_
  have sn : Seen X pins σ1 H1 { s with heap := hp } a cls d := seen_of I stk frm gr fly (up0.trans up1) os ag na
  (obtain ⟨ob, fl, q, z, r⟩ := sn.obj)
  have ins := in_suite (a := a) sn.inv
  have cl : PySem.W.Looks (model X.prog X.w) hp (typeOf (.ref a)) cls := fun _ _ _ _ keep hq => wpAny_typeOf_ref (keep _ _ q) (by rw [z.1]; exact hq)
  refine wpAny_handleBy_cons (codeAny_handlers_test ?_) (fun z => nomatch z)
  have name : ∀ {Q : Value → Shared → Prop} {E : Value → Shared → Prop}, Q c { s with heap := hp } → wpAny (model X.prog X.w) (X.A.mark (some (.ref a))) (eval (.Name x np) X.env) Q E { s with heap := hp } := by
    intro Q E hq
    (obtain ⟨g, nodb, m | ⟨m, bv, nn⟩⟩ := named)
    · exact ld_glob ins g m hq nodb
    · exact ld_blt ins g m bv hq nn nodb
  refine name ((PySem.W.exm_one (M := model X.prog X.w) sn.inv.kIn cl em).here ?_)
  cases b with
  | false =>
    (show wpAny _ X.A (handleBy (.ref a) X.env []) _ _ _)
    refine wpAny_handleBy_nil ?_
    (obtain ⟨_, _, _, ob2, fl2, T, _, _, q2, _, r2, t1, _⟩ := id fly)
    unfold PySem.passOn
    refine wpAny_bind (wpAny_field q2 r2 t1 ?_)
    (rw [if_neg (show ¬ ((Value.ref T == Value.none) = true) from by simp)])
    have last : wpAny (model X.prog X.w) X.A (setFlight (.ref a) X.env.frame) (fun _ s4 => wpAny (model X.prog X.w) X.A (throw (.ref a) : Sem Flow) (SP X pins D) X.xe s4) X.xe { s with heap := hp } := by
      rw [frm]
      refine HandSPX.setFlight_upZ fly fun h4 held up4 => wpAny_throw (tk _ _ ?_)
      exact ⟨a, B, t0, pins, σ1, H1, cls, d, rfl, I, gr, (up0.trans up1).trans up4, .inr (.inr (stk ▸ held)), na, os, ag, no rfl⟩
    exact wpAny_bind last
  | true =>
    refine codeAny_handlers_suite_as (HandSPX.lands_againZ fly fun h4 fly4 up4 => ?_)
    have sn4 : Seen X pins σ1 H1 { s with heap := h4 } a cls d := seen_of I stk frm gr fly4 ((up0.trans up1).trans up4) os ag na
    refine store_ok (X := X.suite a (X.pn ++ pins)) (v := .ref a) (in_suite sn4.known) nd hi (.inl hn) rfl (fun s5 I5 => ?_) (.inr hn)
    refine wpAny_mono ((hsu a (X.pn ++ pins)).run [] s5 _ _ _ I5 (yes rfl a na)) (fun f s6 q6 => ?_) fun _ _ z => z.elim
    have e := keep_end (cp := cp) nd hi hn kx q6
    first
      | exact e
      | (cases f <;> exact e)
theorem ps_try_keep {tb : WX → TS} (stk : X.stack = X.env :: X.outer) (frm : X.env.frame = some X.env.locals) (nd : X.N.Nodup) (hi : X.N[i]? = some n) (hn : X.env.kindOf n = some .local) (named : Names X x c) (tk : L2N.Takes X Wo)
    (hb : ∀ (W : WX) (pn : List (Addr × Obj)) (xe : Value → Shared → Prop), L2N.Takes (X.tr pn xe) W → PassesOwn (model X.prog X.w) X.A X.env xe → PSs (X.tr pn xe) body (tb W)) (hsu : ∀ (a : Addr) (pn : List (Addr × Obj)), PSs (X.suite a pn) (one :: rest) (ts a)) :
    PS X (.Try body [.ExceptHandler (some (.Name x np)) (some n) (one :: rest) cp] [] [] pos) (fun D σ H => tb (wKeep X.K c i ts Wo D) D σ H) := by
  (refine ⟨fun pins s σ H D I h => wpAny_Try_except ?_⟩)
  have kx := I.ok
  have run := (hb (wKeep X.K c i ts Wo D) (X.pn ++ pins) (hitP X pins D [.ExceptHandler (some (.Name x np)) (some n) (one :: rest) cp]) (fun u s' t => keep_hit stk frm nd hi hn named tk kx hsu t) PassesOwn.looking).run [] s σ H D (I.toTry _) h
  refine wpAny_mono run (fun f s1 q => ?_) fun _ _ z => z
  cases f with
  | ret v =>
    (obtain ⟨w, σ1, H1, I1, rv, q1⟩ := q)
    exact ⟨w, _, _, I1.ofTry kx, rv, q1⟩
  | next =>
    (obtain ⟨σ1, H1, I1, q1⟩ := q)
    exact wpAny_execs_nil ⟨_, _, I1.ofTry kx, q1⟩
  | brk =>
    (obtain ⟨σ1, H1, I1, q1⟩ := q)
    exact ⟨_, _, I1.ofTry kx, q1⟩
  | cont =>
    (obtain ⟨σ1, H1, I1, q1⟩ := q)
    exact ⟨_, _, I1.ofTry kx, q1⟩
/-- what 'except x' wishes of it -/
def wOnly (K : PySem.W.Frag) (c : Value) (t0 : TS) (Wo : WX) (D : Ends) : WX := fun cls d σ H => ∃ b, PySem.W.exmOne K cls c = some b ∧ (b = false → Wo cls d σ H) ∧ (b = true → t0 D σ H)
theorem only_hit {t0 : TS} (stk : X.stack = X.env :: X.outer) (frm : X.env.frame = some X.env.locals) (named : Names X x c) (tk : L2N.Takes X Wo) (kx : X.Ok)
    (hsu : ∀ (a : Addr) (pn : List (Addr × Obj)), PSs (X.suite a pn) (one :: rest) t0) (t : L2N.XE (X.tr (X.pn ++ pins) (hitP X pins D [.ExceptHandler (some (.Name x np)) none (one :: rest) cp])) (wOnly X.K c t0 Wo D) u s) :
    hitP X pins D [.ExceptHandler (some (.Name x np)) none (one :: rest) cp] u s := by
  (obtain ⟨a, B, s0, pins2, σ1, H1, cls, d, eu, I0, gr, up0, sky, na, os, ag, b, em, no, yes⟩ := t)
  subst eu
  have I : L2.Inv X pins σ1 H1 s0 := I0.ofTry kx
  have frs1 : X.A.frames = some (X.env :: X.outer) := kx.frames.trans (congrArg some stk)
  have sky1 : Sky B (X.env :: X.outer) a (L2N.Zn cls d) X.env.locals s.heap := stk ▸ sky
  unfold hitP
  refine L2N.Sky.land L2N.Zn.steady frs1 frm sky1 fun hp fly up1 => ?_
  have sn : Seen X pins σ1 H1 { s with heap := hp } a cls d := seen_of I stk frm gr fly (up0.trans up1) os ag na
  (obtain ⟨ob, fl, q, z, r⟩ := sn.obj)
  have ins := in_suite (a := a) sn.inv
  have cl : PySem.W.Looks (model X.prog X.w) hp (typeOf (.ref a)) cls := fun _ _ _ _ keep hq => wpAny_typeOf_ref (keep _ _ q) (by rw [z.1]; exact hq)
  refine wpAny_handleBy_cons (codeAny_handlers_test ?_) (fun z => nomatch z)
  have name : ∀ {Q : Value → Shared → Prop} {E : Value → Shared → Prop}, Q c { s with heap := hp } → wpAny (model X.prog X.w) (X.A.mark (some (.ref a))) (eval (.Name x np) X.env) Q E { s with heap := hp } := by
    intro Q E hq
    (obtain ⟨g, nodb, m | ⟨m, bv, nn⟩⟩ := named)
    · exact ld_glob ins g m hq nodb
    · exact ld_blt ins g m bv hq nn nodb
  refine name ((PySem.W.exm_one (M := model X.prog X.w) sn.inv.kIn cl em).here ?_)
  cases b with
  | false =>
    (show wpAny _ X.A (handleBy (.ref a) X.env []) _ _ _)
    refine wpAny_handleBy_nil ?_
    (obtain ⟨_, _, _, ob2, fl2, T, _, _, q2, _, r2, t1, _⟩ := id fly)
    unfold PySem.passOn
    refine wpAny_bind (wpAny_field q2 r2 t1 ?_)
    (rw [if_neg (show ¬ ((Value.ref T == Value.none) = true) from by simp)])
    have last : wpAny (model X.prog X.w) X.A (setFlight (.ref a) X.env.frame) (fun _ s4 => wpAny (model X.prog X.w) X.A (throw (.ref a) : Sem Flow) (SP X pins D) X.xe s4) X.xe { s with heap := hp } := by
      rw [frm]
      refine HandSPX.setFlight_upZ fly fun h4 held up4 => wpAny_throw (tk _ _ ?_)
      exact ⟨a, B, s0, pins, σ1, H1, cls, d, rfl, I, gr, (up0.trans up1).trans up4, .inr (.inr (stk ▸ held)), na, os, ag, no rfl⟩
    exact wpAny_bind last
  | true =>
    refine codeAny_handlers_suite (HandSPX.lands_againZ fly fun h4 fly4 up4 => ?_)
    have sn4 : Seen X pins σ1 H1 { s with heap := h4 } a cls d := seen_of I stk frm gr fly4 ((up0.trans up1).trans up4) os ag na
    refine wpAny_mono ((hsu a (X.pn ++ pins)).run [] _ _ _ _ (in_suite sn4.inv) (yes rfl)) (fun f s6 q6 => ?_) fun _ _ z => z.elim
    cases f with
    | ret v =>
      (obtain ⟨w, σ2, H2, I2, rv, q1⟩ := q6)
      exact ⟨w, _, _, off_suite kx I2, rv, q1⟩
    | next =>
      (obtain ⟨σ2, H2, I2, q1⟩ := q6)
      exact ⟨_, _, off_suite kx I2, q1⟩
    | brk =>
      (obtain ⟨σ2, H2, I2, q1⟩ := q6)
      exact ⟨_, _, off_suite kx I2, q1⟩
    | cont =>
      (obtain ⟨σ2, H2, I2, q1⟩ := q6)
      exact ⟨_, _, off_suite kx I2, q1⟩
theorem ps_try_plain {tb : WX → TS} {t0 : TS} (stk : X.stack = X.env :: X.outer) (frm : X.env.frame = some X.env.locals) (named : Names X x c) (tk : L2N.Takes X Wo)
    (hb : ∀ (W : WX) (pn : List (Addr × Obj)) (xe : Value → Shared → Prop), L2N.Takes (X.tr pn xe) W → PassesOwn (model X.prog X.w) X.A X.env xe → PSs (X.tr pn xe) body (tb W)) (hsu : ∀ (a : Addr) (pn : List (Addr × Obj)), PSs (X.suite a pn) (one :: rest) t0) :
    PS X (.Try body [.ExceptHandler (some (.Name x np)) none (one :: rest) cp] [] [] pos) (fun D σ H => tb (wOnly X.K c t0 Wo D) D σ H) := by
  (refine ⟨fun pins s σ H D I h => wpAny_Try_except ?_⟩)
  have kx := I.ok
  have run := (hb (wOnly X.K c t0 Wo D) (X.pn ++ pins) (hitP X pins D [.ExceptHandler (some (.Name x np)) none (one :: rest) cp]) (fun u s' t => only_hit stk frm named tk kx hsu t) PassesOwn.looking).run [] s σ H D (I.toTry _) h
  refine wpAny_mono run (fun f s1 q => ?_) fun _ _ z => z
  cases f with
  | ret v =>
    (obtain ⟨w, σ1, H1, I1, rv, q1⟩ := q)
    exact ⟨w, _, _, I1.ofTry kx, rv, q1⟩
  | next =>
    (obtain ⟨σ1, H1, I1, q1⟩ := q)
    exact wpAny_execs_nil ⟨_, _, I1.ofTry kx, q1⟩
  | brk =>
    (obtain ⟨σ1, H1, I1, q1⟩ := q)
    exact ⟨_, _, I1.ofTry kx, q1⟩
  | cont =>
    (obtain ⟨σ1, H1, I1, q1⟩ := q)
    exact ⟨_, _, I1.ofTry kx, q1⟩
end

/-! ### raise C(e) -/
section
variable {X : Cx}
theorem pmk_one {C : Addr} {bmB : List Value} {B newId initId : String} {x : Str} {e : Expr} {te : TE} {p pos : Pos} (F : ExcBaseFacts B newId initId bmB) (q : PySem.W.excIn X.K C bmB newId = true) (gC : X.mg x = some (.ref C)) (kC : PySem.W.keepIn X.K (.ref C) = true) (r : Raises X (.ref C)) (hg : Gl X x)
    (he : PE X e te) (hs : starEach [e] X.env = (false, eval e X.env) :: starEach [] X.env := by rfl) (hdb : (x == ("__debug__" : Str)) = false := by decide) :
    L2N.PMk X (.Call (.Name x p) [e] [] pos) (fun σ H Q => te σ H fun _ H1 => Q (.ref C) none H1) := by
  (intro pins s σ H Q I h)
  (refine wpAny_Call_Name_kw (ld_glob I hg gC ?_ hdb))
  refine (PySem.W.callWith_K (h₀ := X.base) I.ok.mod.kin kC ?_ hs (by rfl))
  (rw [hs])
  (show wpAny _ _ (spliced ((false, eval e X.env) :: backTo pos (starEach [] X.env))) _ _ s)
  refine (Calls.spliced_cons (thn (he.run pins s σ H _ I h) fun u s1 ⟨v, H1, I1, r1, q1⟩ => ?_))
  refine (Calls.spliced_nil ⟨I1.kIn, ?_⟩)
  (show wpAny _ _ (PySem.call (.ref C) [u]) _ _ _)
  (obtain ⟨bm, N, nm, qn, bs, hdct, sn, sub, ab, col, dd, k0, k1, k2, k3, k5, mN, hC, hN, hni, T⟩ := exc_obj I1.kIn q)
  refine (wpAny_call_exc_subT F T hC hN hni (fun h' e hm => ?_) (by show 1 ≤ sizeLine; rw [sizeLine_eq]; omega))
  exact L2N.mk_of I1 hm r q1 (I1.hok.gone hm.new)
end
/-! ### the field, isinstance -/
section
variable {X : Cx}
/-- e.f -/
def tFld (K : PySem.W.Frag) (f : Str) (te : TE) : TE := fun σ H Q => te σ H fun y H1 => ∃ k a b v, XfC K (He.ga K k) ∧ PySem.W.findIn K (.ref (He.ga K k)) f = some none ∧ y = .ref a ∧ H1 a = some (ExD (.ref (He.ga K k)) (some b) a) ∧ H1 b = some (.xd [(f, v)]) ∧ Q v H1
theorem pe_fld {e : Expr} {te : TE} {pos : Pos} {f : Str} (he : PE X e te) (hb : attributeBase e f X.env (eval e X.env) = eval e X.env) : PE X (.Attribute e f pos) (tFld X.K f te) := by
  (refine ⟨fun pins s σ H Q I h => attr_of hb (thn (he.run pins s σ H _ I h) fun u s1 hh => ?_)⟩)
  (obtain ⟨y, H1, I1, ry, k, a, b, v, T, own, ey, ea, eb, q⟩ := hh)
  subst ey
  (cases (show u = Value.ref a from ry))
  (obtain ⟨⟨ob, fl, qa, z, r⟩, _, _⟩ := (I1.hok a _ ea))
  (obtain ⟨mA, ns, rel⟩ := (show ObjOk X.prog X.w H1 s1.heap b (.xd [(f, v)]) from I1.hok b _ eb))
  (obtain ⟨od, ho, hl⟩ := lookIn_ns ns)
  have lk : ([(f, v)] : List (Str × V)).lookup f = some v := by simp [List.lookup]
  (obtain ⟨w, hw, rw_⟩ := RelO.some_of (v := v) (o := mA f) (by rw [← lk]; exact rel f))
  have J : PySem.W.InstAt s1.heap a ob (He.ga X.K k) (some od) := ⟨qa, z.1, by unfold PySem.W.notCls; rw [r] <;> rfl, by rw [z.2.1]; exact ho⟩
  exact HandSPX.exc_get I1.kIn J T.ga T.gg T.exC (PySem.W.findObj_own T.hdC own rfl (by rw [hl, hw])) (handed_of rw_) ⟨v, H1, I1.tok _, rw_, q⟩
/-- isinstance(e, c), e with a dict of one field or none -/
def rIsX (K : PySem.W.Frag) : List V → Hp → VK → Prop := fun xs H Q => ∃ (a : Addr) (k : Str) (d : Option Addr) (c : V) (cv : Value) (b : Bool), xs = [.ref a, c] ∧ H a = some (ExD (.ref (He.ga K k)) d a) ∧ (∀ z, d = some z → ∃ f v, H z = some (.xd [(f, v)])) ∧ (∀ u, RelV c u → u = cv) ∧ ExcC K (He.ga K k) ∧ PySem.W.kitOne K (.ref (He.ga K k)) cv = some b ∧ Q (.bl b) H
theorem call_isX : CallR X (.builtin "isinstance") (rIsX X.K) := by
  intro pins s σ H xs us Q I r ⟨a, k, d, c, cv, b, ex, ea, ed, ec, C, e, q⟩
  subst ex
  (obtain ⟨u1, u2, rfl, r1, r2⟩ := vals2 r)
  (cases (show u1 = Value.ref a from r1))
  cases ec _ r2
  (obtain ⟨⟨ob, fl, qa, z, rr⟩, _, _⟩ := (I.hok a _ ea))
  (obtain ⟨cdD, hcD, _⟩ := PySem.W.any_some C.hd)
  have go : ∀ {od : Option Obj}, PySem.W.InstAt s.heap a ob (He.ga X.K k) od → wpAny (model X.prog X.w) X.A (PySem.call (.builtin "isinstance") [.ref a, cv]) (EP X pins σ Q) X.xe s := fun J =>
    PySem.W.kia_one (PySem.W.kitx_exc (by rw [hcD]; rfl) C.hg C.hk C.hs C.ha C.hn C.ht C.hm) I.kIn J e (fun z => nomatch z) fun tk => ⟨.bl b, H, I.tok tk, rfl, q⟩
  cases d with
  | none => exact go (od := none) ⟨qa, z.1, by unfold PySem.W.notCls; rw [rr] <;> rfl, by rw [z.2.1]; exact True.intro⟩
  | some y =>
    obtain ⟨f, v, eb⟩ := ed y rfl
    (obtain ⟨mA, ns, rel⟩ := (show ObjOk X.prog X.w H s.heap y (.xd [(f, v)]) from I.hok y _ eb))
    (obtain ⟨od, ho, hl⟩ := lookIn_ns ns)
    exact go (od := some od) ⟨qa, z.1, by unfold PySem.W.notCls; rw [rr] <;> rfl, by rw [z.2.1]; exact ho⟩
end
end PV
end

section
set_option maxRecDepth 100000
/-! PvQ: enumerate of a tuple, collected into a tuple. -/
namespace PVQ
open PySem
open PySem.Sem (wp)
theorem new_enumT (t : Addr) (items : Array Value) (k : Nat) (dc : Option Addr) (sl : Array (Option Value)) :
    Meets (Builtin.«enumerate.__new__» ⟨[.type "enumerate", .ref t], []⟩) (fun _ R s => s.heap.get? t = some { cls := .type "tuple", dict := dc, data := .seq items k, slots := sl } ∧
      R (.ok (.ret (.ref (s.heap.push { cls := .type "tuple_iterator", data := .fields #[.ref t, .int 0 0] }).objs.size)))
        { s with heap := (s.heap.push { cls := .type "tuple_iterator", data := .fields #[.ref t, .int 0 0] }).push { cls := .type "enumerate", data := .fields #[.none, .bool false, .ref s.heap.objs.size, rawInt 0, .none, .none] } }) :=
  .of_wp fun prog w A R s hyp => by
    obtain ⟨hp, gn, dr, tk, os⟩ := s
    obtain ⟨hget, hR⟩ := hyp
    have sub := sub_enumerate
    have isT : Heap.IsTuple (Shared.heap ⟨hp, gn, dr, tk, os⟩) t items := ⟨_, hget, rfl, k, rfl⟩
    wp_walk using PySem.AutoSeq1.wpAny_loadPart' hget
    (refine wpAny_stack_any fun st => wpAny_pure ?_)
    split
    · rename_i cl _ _ _ _ _
      cases (cl == Value.type "enumerate")
      · wp_walk using PySem.AutoSeq1.wpAny_loadPart' hget, wpAny_pyIter_tuple isT
        exact ⟨_, rfl, hR⟩
      · wp_walk using PySem.AutoSeq1.wpAny_loadPart' hget, wpAny_pyIter_tuple isT
        exact ⟨_, rfl, hR⟩
    · wp_walk using PySem.AutoSeq1.wpAny_loadPart' hget, wpAny_pyIter_tuple isT
      exact ⟨_, rfl, hR⟩
section
variable {w : World} {prog : Program} {A : Around} {E : Value → Shared → Prop} {s : Shared}
theorem call_enumT {t : Addr} {items : Array Value} {Q : Value → Shared → Prop} (ht : s.heap.IsTuple t items)
    (hq : ∀ h', IsEnum h' (s.heap.objs.size + 1) s.heap.objs.size 0 .none → h'.IsTupleIter s.heap.objs.size t 0 → h'.objs.size = s.heap.objs.size + 2 → (∀ b o, s.heap.get? b = some o → h'.get? b = some o) →
      Q (.ref (s.heap.objs.size + 1)) { s with heap := h' }) : wpAny (model prog w) A (call (.type "enumerate") [.ref t]) Q E s := by
  obtain ⟨⟨cl, dc, dt, sl⟩, hget, hc, k, hd⟩ := ht
  cases (show cl = .type "tuple" from hc)
  cases (show dt = .seq items k from hd)
  refine callType_new F.called_enumerate (by decide) (F.typeCall_enumerate_1 _) (F.newCall_enumerate_1 _) (fun ob => F.args_object_init_2 ob _) F.entry_enumerate_new (new_enumT t items k dc sl) ⟨hget, ?_⟩
  have size1 : (s.heap.push { cls := .type "tuple_iterator", data := .fields #[.ref t, .int 0 0] }).objs.size = s.heap.objs.size + 1 := Heap.size_push ..
  show _ ∧ _
  rw [size1]
  have isE : IsEnum ((s.heap.push { cls := .type "tuple_iterator", data := .fields #[.ref t, .int 0 0] }).push { cls := .type "enumerate", data := .fields #[.none, .bool false, .ref s.heap.objs.size, rawInt 0, .none, .none] }) (s.heap.objs.size + 1) s.heap.objs.size 0 .none := by
    have q := Heap.get?_push_size (s.heap.push { cls := .type "tuple_iterator", data := .fields #[.ref t, .int 0 0] }) (o := { cls := .type "enumerate", data := .fields #[.none, .bool false, .ref s.heap.objs.size, rawInt 0, .none, .none] }) rfl
    rwa [size1] at q
  exact ⟨⟨_, isE, rfl⟩, hq _ isE ⟨_, Heap.get?_push_of_some _ (Heap.get?_push_size _ rfl), rfl, rfl⟩ (by rw [Heap.size_push, size1]) fun b o x => Heap.get?_push_of_some _ (Heap.get?_push_of_some _ x)⟩
/-- next while a tuple that was given out is still there -/
theorem next_heldT {e it t T : Addr} {i : Nat} {items : Array Value} {x old : Value} {fl : Bool} {oT : Obj} {Q : Option Value → Shared → Prop}
    (he : IsEnumHeld s.heap e it i old T fl) (hT : s.heap.get? T = some oT) (nTe : T ≠ e) (nTi : T ≠ it) (hi : s.heap.IsTupleIter it t i) (ht : s.heap.IsTuple t items) (hx : items[i]? = some x) (nei : e ≠ it)
    (hq : ∀ h' tk, IsEnumHeld h' e it ((i : Int) + 1) old T true → h'.IsTupleIter it t (i + 1) → h'.get? s.heap.objs.size = some { cls := .type "tuple", data := .seq #[.int i tk, x] } → h'.objs.size = s.heap.objs.size + 1 →
      (∀ b o, b ≠ e → b ≠ it → s.heap.get? b = some o → h'.get? b = some o) →
      Q (some (.ref s.heap.objs.size)) { s with heap := h', toks := tk + 1 }) : wpAny (model prog w) A (pyNext (.ref e)) Q E s := by
  have isTy : s.TypeIs (.ref e) "enumerate" := ⟨_, he, rfl⟩
  unfold pyNext
  refine wpAny_bind (wpAny_attempt (wpAny_callSpecial?_slot (name := Str.ofString "__next__") isTy F.slot_enumerate_next (wpAny_call_entry F.slot_enumerate_next isTy F.entry_enumerate_next ?_ (F.args_enumerate_next_1 _))))
  obtain ⟨hp, gn, dr, tk, os⟩ := s
  (show wpAny _ _ (field (.ref e) 2 >>= _) _ _ _)
  refine wpAny_bind (wpAny_field he rfl (x := .ref it) rfl (wpAny_bind (wpAny_nextOf_tuple_item hi ht hx fun g1 hi1 sb1 => ?_)))
  have sb1 : Heap.SameBut it hp g1 := sb1
  have he1 : IsEnumHeld g1 e it i old T fl := (sb1.2 e nei).trans he
  show wpAny _ _ (field (.ref e) 3 >>= _) _ _ ⟨g1, gn, dr, tk, os⟩
  refine wpAny_bind (wpAny_field he1 rfl (x := rawInt i) rfl ?_)
  show wpAny _ _ (field (.ref e) 4 >>= _) _ _ ⟨g1, gn, dr, tk, os⟩
  refine wpAny_bind (wpAny_field he1 rfl (x := .none) rfl ?_)
  show wpAny _ _ (mkInt i >>= _) _ _ ⟨g1, gn, dr, tk, os⟩
  (refine wpAny_bind (wpAny_mkInt ?_))
  show wpAny _ _ (setField (.ref e) 3 (rawInt ((i : Int) + 1)) >>= _) _ _ ⟨g1, gn, dr, tk + 1, os⟩
  refine wpAny_bind (wpAny_setField_rec he1 (by simp) fun g2 he2 sb2 => ?_)
  have sb2 : Heap.SameBut e g1 g2 := sb2
  have he2 : IsEnumHeld g2 e it ((i : Int) + 1) old T fl := he2
  show wpAny _ _ (setField (.ref e) 4 .none >>= _) _ _ ⟨g2, gn, dr, tk + 1, os⟩
  refine wpAny_bind (wpAny_setField_rec he2 (by simp) fun g3 he3 sb3 => ?_)
  have sb3 : Heap.SameBut e g2 g3 := sb3
  have he3 : IsEnumHeld g3 e it ((i : Int) + 1) old T fl := he3
  show wpAny _ _ (newTuple [.int i tk, x] >>= _) _ _ ⟨g3, gn, dr, tk + 1, os⟩
  (refine wpAny_bind (wpAny_newTuple ?_))
  have sz3 : g3.objs.size = hp.objs.size := by rw [sb3.1, sb2.1, sb1.1]
  have he4 : IsEnumHeld (g3.push { cls := .type "tuple", data := .seq #[.int i tk, x] }) e it ((i : Int) + 1) old T fl := Heap.get?_push_of_some _ he3
  have keep4 : ∀ b o, b ≠ e → b ≠ it → hp.get? b = some o → (g3.push { cls := .type "tuple", data := .seq #[.int i tk, x] }).get? b = some o := fun b o hbe hbi hb =>
    Heap.get?_push_of_some _ (sb3.extBut b o hbe (sb2.extBut b o hbe (sb1.extBut b o hbi hb)))
  have hi4 : (g3.push { cls := .type "tuple", data := .seq #[.int i tk, x] }).IsTupleIter it t (i + 1) := by
    obtain ⟨o, ho, r⟩ := (hi1.extBut sb2.extBut (Ne.symm nei)).extBut sb3.extBut (Ne.symm nei)
    exact ⟨o, Heap.get?_push_of_some _ ho, r⟩
  have new4 : (g3.push { cls := .type "tuple", data := .seq #[.int i tk, x] }).get? hp.objs.size = some { cls := .type "tuple", data := .seq #[.int i tk, x] } := by rw [← sz3]; exact Heap.get?_push_size _ rfl
  have nne : hp.objs.size ≠ e := Nat.ne_of_gt (Heap.lt_size he)
  show wpAny _ _ (Builtin.SmallTypes.ownedTupleIsFree (.ref e) >>= _) _ _ ⟨_, gn, dr, tk + 1, os⟩
  rw [sz3]
  refine wpAny_bind (wpAny_tupleHeld_enum (s := ⟨_, gn, dr, tk + 1, os⟩) he4 (keep4 T oT nTe nTi hT) fun g5 he5 sb5 => ?_)
  have sb5 : Heap.SameBut e _ g5 := sb5
  (simp only [Bool.false_eq_true, if_false])
  (refine wpAny_pure ⟨_, rfl, ?_⟩)
  refine wpAny_pure (hq g5 tk he5 (hi4.extBut sb5.extBut (Ne.symm nei)) (sb5.extBut _ _ nne new4) ?_ fun b o hbe hbi hb => sb5.extBut b o hbe (keep4 b o hbe hbi hb))
  show g5.objs.size = hp.objs.size + 1
  rw [sb5.1, Heap.size_push, sz3]
theorem end_heldT {e it t T : Addr} {i : Nat} {items : Array Value} {old : Value} {fl : Bool} {Q : Option Value → Shared → Prop} (hh : A.handled = none) (he : IsEnumHeld s.heap e it i old T fl) (hi : s.heap.IsTupleIter it t i) (ht : s.heap.IsTuple t items) (hx : items[i]? = none)
    (hq : ∀ h', Heap.ExtBut it s.heap h' → Q none { s with heap := h' }) : wpAny (model prog w) A (pyNext (.ref e)) Q E s := by
  have isTy : s.TypeIs (.ref e) "enumerate" := ⟨_, he, rfl⟩
  unfold pyNext
  refine wpAny_bind (wpAny_attempt (wpAny_callSpecial?_slot (name := Str.ofString "__next__") isTy F.slot_enumerate_next (wpAny_call_entry F.slot_enumerate_next isTy F.entry_enumerate_next ?_ (F.args_enumerate_next_1 _))))
  (show wpAny _ _ (field (.ref e) 2 >>= _) _ _ _)
  refine wpAny_bind (wpAny_field he rfl (x := .ref it) rfl (wpAny_bind (wpAny_nextOf_tuple_end hh hi ht hx fun h' y ex ey => ?_)))
  obtain ⟨o, ho, hc⟩ := ey
  exact wpAny_bind (wpAny_isInstance (T := "StopIteration") (b := true) ⟨o, ho, hc⟩ isSubtype_stop (wpAny_pure (hq _ ex)))

/-! ### the loop that collects the pairs -/
structure Pairs (items : Array Value) (e it S : Addr) (acc : Array Value) (h : Heap) : Prop where
  at_ : ∀ (j : Nat) (v : Value), acc[j]? = some v → ∃ (T : Addr) (tk : Tok) (x : Value), v = .ref T ∧ items[j]? = some x ∧ h.get? T = some { cls := .type "tuple", data := .seq #[.int (j : Int) tk, x] } ∧ T ≠ e ∧ T ≠ it ∧ T ≠ S ∧ e < T
structure At (items : Array Value) (e it t S : Addr) (i : Nat) (acc : Array Value) (c : Nat) (h : Heap) : Prop where
  en : (i = 0 ∧ ∃ old, IsEnum h e it 0 old) ∨ ∃ (old : Value) (T : Addr) (fl : Bool) (oT : Obj), IsEnumHeld h e it (i : Int) old T fl ∧ h.get? T = some oT ∧ T ≠ e ∧ T ≠ it ∧ T ≠ S
  ti : h.IsTupleIter it t i
  tp : h.IsTuple t items
  ls : h.get? S = some { cls := .type "list", dict := none, data := .seq acc c, slots := #[] }
  sz : acc.size = i
  ps : Pairs items e it S acc h
theorem nextT (hh : A.handled = none) {items : Array Value} {e it t S : Addr} {i c : Nat} {acc : Array Value} (n1 : e ≠ it) (n2 : t ≠ it) (n3 : t ≠ e) (a : At items e it t S i acc c s.heap) (hlt : i < items.size) {Q : Option Value → Shared → Prop}
    (hq : ∀ (g : Heap) (tk : Tok), (∃ (old : Value) (T : Addr) (fl : Bool) (oT : Obj), IsEnumHeld g e it ((i + 1 : Nat) : Int) old T fl ∧ g.get? T = some oT ∧ T ≠ e ∧ T ≠ it ∧ T ≠ S) → g.IsTupleIter it t (i + 1) → g.IsTuple t items →
      g.get? s.heap.objs.size = some { cls := .type "tuple", data := .seq #[.int (i : Int) tk, items[i]] } → (∀ b o, b ≠ e → b ≠ it → s.heap.get? b = some o → g.get? b = some o) → Q (some (.ref s.heap.objs.size)) { s with heap := g, toks := tk + 1 }) :
    (wpAny (model prog w) A (pyNext (.ref e)) Q E s) := by
  obtain ⟨oi, goi, _⟩ := id a.ti
  have z1 : s.heap.objs.size ≠ it := Nat.ne_of_gt (Heap.lt_size goi)
  have z3 : s.heap.objs.size ≠ S := Nat.ne_of_gt (Heap.lt_size a.ls)
  rcases a.en with ⟨i0, old, he⟩ | ⟨old, T, fl, oT, he, hT, m1, m2, m3⟩
  · have z4 : s.heap.objs.size ≠ e := Nat.ne_of_gt (Heap.lt_size he)
    subst i0
    refine wpAny_pyNext_enum_itemD (Draws.tuple (A := A.in1) hh it t n2 items) he ⟨a.ti, a.tp⟩ hlt n1 (fun hm => ?_) fun x g tk hP ho hs2 new _ keep => ?_
    · rcases List.mem_cons.mp hm with z | z
      · exact n1 z
      · exact n3 (List.mem_singleton.mp z).symm
    · have hx : items[0] = x := by rw [Array.getElem?_eq_getElem hlt] at hP; exact Option.some.inj hP
      subst hx
      exact hq g tk ⟨_, _, false, _, ho, new, z4, z1, z3⟩ hs2.1 hs2.2 new keep
  · refine next_heldT he hT m1 m2 a.ti a.tp (Array.getElem?_eq_getElem hlt) n1 fun g tk ho hi2 new _ keep => ?_
    exact hq g tk ⟨_, T, true, oT, ho, keep T _ m1 m2 hT, m1, m2, m3⟩ hi2 (a.tp.at fun o q => keep t o n3 n2 q) new keep
theorem loopT (hh : A.handled = none) {items : Array Value} {e it t S : Addr} (n1 : e ≠ it) (n2 : t ≠ it) (n3 : t ≠ e) (n4 : S ≠ e) (n5 : S ≠ it) (n6 : S ≠ t) (hz : items.size ≤ sizeLine) (res : Value) {R : Result → Shared → Prop} :
    ∀ (k i : Nat) (s : Shared) (acc : Array Value) (c : Nat), items.size - i = k → i ≤ items.size → At items e it t S i acc c s.heap →
    (∀ (h' : Heap) (tk' : Tok) (acc' : Array Value) (c' : Nat), acc'.size = items.size → Pairs items e it S acc' h' → h'.get? S = some { cls := .type "list", dict := none, data := .seq acc' c', slots := #[] } → (∀ b o, b ≠ e → b ≠ it → b ≠ S → s.heap.get? b = some o → h'.get? b = some o) →
      R (.ok (.ret res)) { s with heap := h', toks := tk' }) → codeAny (model prog w) A (.builtin "list.extend.loop" ⟨[.ref S, .ref e, res], []⟩) R s := by
  intro k
  induction k with
  | zero =>
    intro i s acc c hk hi a hR
    have e0 : i = items.size := by omega
    subst e0
    (refine codeAny_builtin F.entry_extend_loop ?_)
    (rw [Around.under_plainId F.plain_extend_loop _])
    show wpAny _ A.in1 (pyNext (.ref e) >>= _) _ _ s
    have stop : ∀ h', Heap.ExtBut it s.heap h' → R (.ok (.ret res)) { s with heap := h' } := fun h' x =>
      hR h' s.toks acc c a.sz ⟨fun j v hv => let ⟨T, tk, y, q1, q2, q3, q4, q5, q6⟩ := a.ps.at_ j v hv; ⟨T, tk, y, q1, q2, x T _ q5 q3, q4, q5, q6⟩⟩ (x S _ n5 a.ls) fun b o _ hb _ q => x b o hb q
    rcases a.en with ⟨i0, old, he⟩ | ⟨old, T, fl, oT, he, hT, m1, m2, m3⟩
    · exact wpAny_bind (wpAny_pyNext_enum_endD (Draws.tuple (A := A.in1.in1) hh it t n2 items) he ⟨a.ti, a.tp⟩ fun h' x => wpAny_pure (stop h' x))
    · exact wpAny_bind (end_heldT hh he a.ti a.tp (by simp) fun h' x => wpAny_pure (stop h' x))
  | succ k ih =>
    intro i s acc c hk hi a hR
    (have hlt : i < items.size := by omega)
    (refine codeAny_builtin F.entry_extend_loop ?_)
    (rw [Around.under_plainId F.plain_extend_loop _])
    show wpAny _ A.in1 (pyNext (.ref e) >>= _) _ _ s
    obtain ⟨oi, goi, _⟩ := a.ti
    obtain ⟨ot, got, _⟩ := a.tp
    have z1 : s.heap.objs.size ≠ it := Nat.ne_of_gt (Heap.lt_size goi)
    have z2 : s.heap.objs.size ≠ t := Nat.ne_of_gt (Heap.lt_size got)
    have z3 : s.heap.objs.size ≠ S := Nat.ne_of_gt (Heap.lt_size a.ls)
    have z5 : e < s.heap.objs.size := by
      rcases a.en with ⟨_, old, he⟩ | ⟨old, T, fl, oT, he, _⟩
      · exact Heap.lt_size he
      · exact Heap.lt_size he
    have z4 : s.heap.objs.size ≠ e := Nat.ne_of_gt z5
    refine wpAny_bind (nextT (A := A.in1) (show A.in1.handled = none from hh) n1 n2 n3 a hlt fun g tk en hi2 ht2 new keep => ?_)
    have ls2 := keep S _ n4 n5 a.ls
    show wpAny _ A.in1 (updateSeq S (·.push (.ref s.heap.objs.size)) >>= _) _ _ _
    refine wpAny_bind ?_
    refine wpAny_updateSeq ls2 rfl (wpAny_pure ⟨plainId_quiet F.plain_extend_loop _, ih (i + 1) _ (acc.push (.ref s.heap.objs.size)) _ (by omega) hlt ⟨.inr ?_, ?_, ?_, Heap.get?_update_self _ ls2 rfl, by rw [Array.size_push, a.sz], ⟨fun j v hv => ?_⟩⟩ fun h' tk' acc' c' q1 q2 q3 q4 => ?_⟩)
      (by rw [a.sz]; omega) (by show (acc.push (.ref s.heap.objs.size)).size ≤ sizeLine + 1; rw [Array.size_push, a.sz]; omega)
    · obtain ⟨old, T, fl, oT, r1, r2, r3, r4, r5⟩ := en
      exact ⟨old, T, fl, oT, (Heap.get?_update_other _ _ n4).trans r1, (Heap.get?_update_other _ _ (Ne.symm r5)).trans r2, r3, r4, r5⟩
    · exact hi2.at fun o q => (Heap.get?_update_other _ _ n5).trans q
    · exact ht2.at fun o q => (Heap.get?_update_other _ _ n6).trans q
    · rw [Array.getElem?_push] at hv
      split at hv
      · rename_i ej
        rw [a.sz] at ej
        cases hv
        subst ej
        exact ⟨_, tk, items[j], rfl, Array.getElem?_eq_getElem hlt, (Heap.get?_update_other _ _ (Ne.symm z3)).trans new, z4, z1, z3, z5⟩
      · obtain ⟨T, tk2, y, r1, r2, r3, r4, r5, r6, r7⟩ := a.ps.at_ j v hv
        exact ⟨T, tk2, y, r1, r2, (Heap.get?_update_other _ _ (Ne.symm r6)).trans (keep T _ r4 r5 r3), r4, r5, r6, r7⟩
    · exact hR h' tk' acc' c' q1 q2 q3 fun b o b1 b2 b3 q => q4 b o b1 b2 b3 ((Heap.get?_update_other _ _ (Ne.symm b3)).trans (keep b o b1 b2 q))

theorem nolen_en : typeLookup (.type "enumerate") "__len__" = pure none := by rw [typeLookup_type, builtinLookup_eq_fast]; kernel_rfl
theorem nohint_en : typeLookup (.type "enumerate") "__length_hint__" = pure none := by rw [typeLookup_type, builtinLookup_eq_fast]; kernel_rfl
theorem collectT (hh : A.handled = none) {items : Array Value} {e it t : Addr} {old : Value} (n1 : e ≠ it) (n2 : t ≠ it) (n3 : t ≠ e) (hz : items.size ≤ sizeLine) (he : IsEnum s.heap e it 0 old) (hi : s.heap.IsTupleIter it t 0) (ht : s.heap.IsTuple t items) {Q : List Value → Shared → Prop}
    (hQ : ∀ (h' : Heap) (tk' : Tok) (acc : Array Value), acc.size = items.size → (∀ (j : Nat) (v : Value), acc[j]? = some v → ∃ (T : Addr) (tk : Tok) (x : Value), v = .ref T ∧ items[j]? = some x ∧ h'.get? T = some { cls := .type "tuple", data := .seq #[.int (j : Int) tk, x] } ∧ e < T) →
      (∀ b o, b ≠ e → b ≠ it → s.heap.get? b = some o → h'.get? b = some o) → s.heap.objs.size < h'.objs.size → Q acc.toList { s with heap := h', toks := tk' }) : wpAny (model prog w) A (collect (.ref e)) Q E s := by
  obtain ⟨oi, goi, _⟩ := id hi
  obtain ⟨ot, got, _⟩ := id ht
  have le := Heap.lt_size he
  have li := Heap.lt_size goi
  have lt := Heap.lt_size got
  unfold collect
  refine wpAny_bind (wpAny_runValue (codeAny_builtin F.entry_proto_collect ?_)); rw [Around.under_plainId F.plain_proto_collect _]
  show wpAny _ A.in1 (newList [] >>= fun l => again (.builtin "list.__iadd__" ⟨[l, .ref e], []⟩)) _ _ s
  refine wpAny_bind (wpAny_newObj_type (wpAny_pure ⟨plainId_quiet F.plain_list_iadd _, codeAny_builtin F.entry_list_iadd ?_⟩)); rw [Around.under_plainId F.plain_list_iadd _]
  let g0 := s.heap.push { cls := .type "list", data := .seq ([] : List Value).toArray }
  have k0 : ∀ b o, s.heap.get? b = some o → g0.get? b = some o := fun b o q => Heap.get?_push_of_some _ q
  have he0 : IsEnum g0 e it 0 old := k0 _ _ he
  have isTy : ({ s with heap := g0 } : Shared).TypeIs (.ref e) "enumerate" := ⟨_, he0, rfl⟩
  show wpAny _ A.in1 (Builtin.List.listExtendWith (.ref s.heap.objs.size) (.ref e) (.ref s.heap.objs.size)) _ _ _
  (unfold Builtin.List.listExtendWith)
  refine wpAny_bind (wpAny_typeOf isTy ?_)
  have q1 : Builtin.List.listSameRef (.ref s.heap.objs.size) (.ref e) = false := by simp [Builtin.List.listSameRef, Nat.ne_of_gt le]
  have q2 : (Value.type "enumerate" == Value.type "list") = false := by decide
  have q3 : (Value.type "enumerate" == Value.type "tuple") = false := by decide
  simp only [q1, q2, q3, Bool.or_false, Bool.false_eq_true, if_false]
  refine wpAny_bind (wpAny_pyIter_enum he0 (wpAny_bind (wpAny_holding ?_)))
  (unfold Builtin.List.listLengthHint)
  refine wpAny_bind (wpAny_specialOf isTy nolen_en ?_)
  show wpAny _ A.in1 (specialOf (Value.ref e) (Str.ofString "__length_hint__") >>= _) _ _ _
  refine wpAny_bind (wpAny_specialOf isTy nohint_en (wpAny_pure ?_))
  show wpAny _ A.in1 (rule "list.extend.makes-room" >>= fun _ => Builtin.List.listTouch (.ref s.heap.objs.size) >>= fun _ => again (.builtin "list.extend.loop" ⟨[.ref s.heap.objs.size, .ref e, .ref s.heap.objs.size], []⟩)) _ _ _
  have hS : g0.get? s.heap.objs.size = some { cls := .type "list", data := .seq ([] : List Value).toArray } := Heap.get?_push_size _ rfl
  (refine wpAny_bind (wpAny_rule (wpAny_bind ?_)))
  (show wpAny _ A.in1 (updateSeq s.heap.objs.size (·.push .none) >>= fun _ => updateSeq s.heap.objs.size (·.pop)) _ _ _)
  have hS2 := Heap.get?_update_self (Obj.mapSeq (·.push Value.none)) hS rfl
  have hS3 := Heap.get?_update_self (Obj.mapSeq (·.pop)) hS2 rfl
  refine wpAny_bind (wpAny_updateSeq hS rfl (wpAny_updateSeq hS2 rfl ?_))
  have oth : ∀ b o, b ≠ s.heap.objs.size → g0.get? b = some o → ((g0.update s.heap.objs.size (Obj.mapSeq (·.push Value.none))).update s.heap.objs.size (Obj.mapSeq (·.pop))).get? b = some o :=
    fun b o hb q => (Heap.get?_update_other _ _ (Ne.symm hb)).trans ((Heap.get?_update_other _ _ (Ne.symm hb)).trans q)
  have ne := Nat.ne_of_lt le
  have ni := Nat.ne_of_lt li
  have nt := Nat.ne_of_lt lt
  refine wpAny_pure ⟨plainId_quiet F.plain_extend_loop _, loopT (A := A) hh n1 n2 n3 (Ne.symm ne) (Ne.symm ni) (Ne.symm nt) hz (.ref s.heap.objs.size) items.size 0 _ _ _ (Nat.sub_zero _) (Nat.zero_le _)
    ⟨.inl ⟨rfl, old, oth e _ ne he0⟩, hi.at fun o q => oth it o ni (k0 _ _ q), ht.at fun o q => oth t o nt (k0 _ _ q), hS3, rfl, ⟨fun j v hv => by simp at hv⟩⟩ fun h' tk' acc c' r1 r2 r3 r4 => ?_⟩
  (show wpAny _ A (load s.heap.objs.size >>= _) _ _ _)
  refine wpAny_bind (wpAny_load r3 (wpAny_pure (hQ h' tk' acc r1 (fun j v hv => ?_) (fun b o b1 b2 q => ?_) (Heap.lt_size r3))))
  · obtain ⟨T, tk, x, p1, p2, p3, _, _, _, p4⟩ := r2.at_ j v hv
    exact ⟨T, tk, x, p1, p2, p3, p4⟩
  · have nb : b ≠ s.heap.objs.size := Nat.ne_of_lt (Heap.lt_size q)
    exact r4 b o b1 b2 nb (oth b o nb (k0 b o q))
/-- tuple(e) -/
theorem call_tupleT (hh : A.handled = none) {items : Array Value} {e it t : Addr} {old : Value} (n1 : e ≠ it) (n2 : t ≠ it) (n3 : t ≠ e) (hz : items.size ≤ sizeLine) (he : IsEnum s.heap e it 0 old) (hi : s.heap.IsTupleIter it t 0) (ht : s.heap.IsTuple t items) {Q : Value → Shared → Prop}
    (hQ : ∀ (h' : Heap) (tk' : Tok) (acc : Array Value), acc.size = items.size → (∀ (j : Nat) (v : Value), acc[j]? = some v → ∃ (T : Addr) (tk : Tok) (x : Value), v = .ref T ∧ items[j]? = some x ∧ h'.get? T = some { cls := .type "tuple", data := .seq #[.int (j : Int) tk, x] } ∧ e < T) →
      (∀ b o, b ≠ e → b ≠ it → s.heap.get? b = some o → h'.get? b = some o) → s.heap.objs.size < h'.objs.size → Q (.ref h'.objs.size) { s with heap := h'.push { cls := .type "tuple", data := .seq acc }, toks := tk' }) : wpAny (model prog w) A (call (.type "tuple") [.ref e]) Q E s := by
  have isTy : s.TypeIs (.ref e) "enumerate" := ⟨_, he, rfl⟩
  have core : codeAny (model prog w) A.in1 (.call (.builtin "tuple.__new__") ⟨[.type "tuple", .ref e], []⟩) (wants (fun obj s1 => s1.TypeIs obj "tuple" ∧ Q obj s1) E) s := by
    refine codeAny_of_tree ?_
    show wpAny _ A.in1.in1 (do checkBuiltinCall "tuple.__new__" ⟨[.type "tuple", .ref e], []⟩; again (.builtin "tuple.__new__" ⟨[.type "tuple", .ref e], []⟩)) _ _ s
    refine wpAny_bind (wpAny_of_eq (F.newCall_tuple_1 _) (wpAny_pure ⟨plainId_quiet F.plain_tuple_new _, codeAny_builtin F.entry_tuple_new ?_⟩)); rw [Around.under_plainId F.plain_tuple_new _]
    have u1 := sub_tuple_self
    have u2 := init_tuple_lookup
    have u3 := madeHere_tuple
    wp_walk using wpAny_typeOf isTy, collectT (s := s) (A := A.in1.in1) (show A.in1.in1.handled = none from hh) n1 n2 n3 hz he hi ht
    intro h' tk' acc r1 r2 r3 r4
    (show wpAny _ _ (Builtin.Tuple.tupleExact acc.toList.toArray >>= fun v => ret v) _ _ _)
    (unfold Builtin.Tuple.tupleExact)
    have ea : acc.toList.toArray = acc := by simp
    rw [ea]
    refine wpAny_bind (wpAny_newObj_type (wpAny_pure ?_) (by show acc.size ≤ sizeLine; rw [r1]; exact hz))
    exact ⟨⟨_, Heap.get?_push_size _ rfl, rfl⟩, hQ h' tk' acc r1 r2 r3 r4⟩
  refine callType_codes (Q₁ := fun obj s1 => s1.TypeIs obj "tuple" ∧ Q obj s1) F.called_tuple (F.typeCall_tuple_1 _) F.entry_object_init core fun obj s1 h1 => ?_
  exact ⟨h1.1, F.args_object_init_2 obj _, object_init_meets F.called_tuple.init.lookup F.called_tuple.made (by decide) prog w A.in1 _ s1 ⟨h1.1, rfl, h1.2⟩⟩
end
end PVQ
end

section
set_option maxRecDepth 100000
namespace PV
open L2 PySem PySem.Spec PyProof.Rows
def pairsV (n : Nat) : List V → List (List V)
  | [] => []
  | v :: vs => [.int (n : Int), v] :: pairsV (n + 1) vs
theorem build_ps {h : Heap} {e : Addr} : ∀ {vs : List V} {its accl : List Value} {n : Nat}, Vals vs its → accl.length = its.length →
    (∀ (j : Nat) (v : Value), accl[j]? = some v → ∃ (T : Addr) (tk : Tok) (x : Value), v = .ref T ∧ its[j]? = some x ∧ h.get? T = some { cls := .type "tuple", data := .seq #[.int ((n + j : Nat) : Int) tk, x] } ∧ e < T) →
    ∃ ps : List (Addr × List V), accl = ps.map (fun p => Value.ref p.1) ∧ ps.map (·.2) = pairsV n vs ∧ (∀ p ∈ ps, e < p.1 ∧ p.2.length ≤ 2 ∧ ∃ us : List Value, Vals p.2 us ∧ IsTup h p.1 us.toArray) ∧ (ps.map (·.1)).Nodup ∧
      ∀ p ∈ ps, ∃ (j : Nat) (tk : Tok) (x : Value), n ≤ j ∧ h.get? p.1 = some { cls := .type "tuple", data := .seq #[.int (j : Int) tk, x] }
  | _, _, [], n, .nil, _, _ => ⟨[], rfl, rfl, fun p hp => (by cases hp), List.nodup_nil, fun p hp => (by cases hp)⟩
  | _, _, _ :: _, _, .nil, hl, _ => by cases hl
  | _, _, [], _, .cons _ _, hl, _ => by cases hl
  | v :: vs, it :: its, a :: accl, n, .cons r t, hl, hh => by
    obtain ⟨T, tk, x, e1, e2, e3, e4⟩ := hh 0 a rfl
    have e2 : it = x := by simpa using e2
    subst e1 e2
    obtain ⟨ps, q1, q2, q3, q4, q5⟩ := build_ps (h := h) (e := e) (n := n + 1) t (Nat.succ.inj hl) fun j w hw => by
      obtain ⟨T', tk', x', p1, p2, p3, p4⟩ := hh (j + 1) w (by simpa using hw)
      exact ⟨T', tk', x', p1, by simpa using p2, by rw [show n + 1 + j = n + (j + 1) by omega]; exact p3, p4⟩
    refine ⟨(T, [.int (n : Int), v]) :: ps, by rw [q1]; rfl, by rw [List.map_cons, q2]; rfl, fun p hp => ?_, ?_, fun p hp => ?_⟩
    · (rcases List.mem_cons.mp hp with rfl | hp)
      · exact ⟨e4, Nat.le_refl _, [.int (n : Int) tk, it], .cons ⟨tk, rfl⟩ (.cons r .nil), ⟨_, e3, rfl, _, rfl⟩⟩
      · exact q3 p hp
    · rw [List.map_cons, List.nodup_cons]
      refine ⟨fun hm => ?_, q4⟩
      obtain ⟨p, hp, e0⟩ := List.mem_map.mp hm
      obtain ⟨j, tk2, x2, hj, g2⟩ := q5 p hp
      have e0 : p.1 = T := e0
      rw [e0, e3] at g2
      have := congrArg (fun o : Option Obj => o.map (·.data)) g2
      simp at this
      omega
    · (rcases List.mem_cons.mp hp with rfl | hp)
      · exact ⟨n, tk, it, Nat.le_refl _, e3⟩
      · obtain ⟨j, tk2, x2, hj, g2⟩ := q5 p hp
        exact ⟨j, tk2, x2, by omega, g2⟩
/-- tuples laid at once -/
def layH (lo : Nat) (ps : List (Addr × List V)) (H : Hp) : Hp := fun b => if b < lo then H b else (ps.lookup b).map HO.tup
theorem lay_lt {lo : Nat} {ps : List (Addr × List V)} {H : Hp} {b : Addr} (h : b < lo) : layH lo ps H b = H b := if_pos h
theorem lookup_of {α : Type} : ∀ {ps : List (Addr × α)} {p : Addr × α}, (ps.map (·.1)).Nodup → p ∈ ps → ps.lookup p.1 = some p.2
  | [], _, _, h => by cases h
  | q :: ps, p, nd, h => by
    (rw [List.map_cons, List.nodup_cons] at nd)
    rcases List.mem_cons.mp h with rfl | h2
    · obtain ⟨a, b⟩ := p
      simp [List.lookup]
    · have hne : (p.1 == q.1) = false := by
        simp only [beq_eq_false_iff_ne]
        intro e
        exact nd.1 (List.mem_map.mpr ⟨p, h2, e⟩)
      obtain ⟨qa, qb⟩ := q
      simp only [List.lookup]
      rw [show (p.1 == qa) = false from hne]
      exact lookup_of nd.2 h2
theorem mem_of_lookupA {α : Type} : ∀ {ps : List (Addr × α)} {b : Addr} {x : α}, ps.lookup b = some x → (b, x) ∈ ps
  | [], _, _, h => by simp [List.lookup] at h
  | (a, y) :: ps, b, x, h => by
    simp only [List.lookup] at h
    split at h
    · rename_i e
      cases h
      rw [beq_iff_eq.mp e]; exact List.mem_cons_self
    · exact List.mem_cons_of_mem _ (mem_of_lookupA h)
section
variable {X : Cx} {pins : List (Addr × Obj)} {σ : L2.St} {H : Hp} {s : Shared} {h' : Heap} {ps : List (Addr × List V)}
theorem inv_lay {tk : Nat} (I : L2.Inv X pins σ H s) (k : ∀ b u, s.heap.get? b = some u → h'.get? b = some u) (hp : ∀ p ∈ ps, s.heap.objs.size ≤ p.1) (hl : ∀ p ∈ ps, p.2.length ≤ sizeLine ∧ ∃ us : List Value, Vals p.2 us ∧ IsTup h' p.1 us.toArray) :
    L2.Inv X pins σ (layH s.heap.objs.size ps H) { s with heap := h', toks := tk } := by
  have lt : ∀ {b : Addr} {u : HO}, H b = some u → b < s.heap.objs.size := fun e => I.hok.lt e
  have same : ∀ {b : Addr} {u : HO}, H b = some u → layH s.heap.objs.size ps H b = some u := fun e => (lay_lt (lt e)).trans e
  refine I.un ⟨fun b u q _ _ _ => k b u q, fun b u q _ _ _ => ⟨u.slots, k b u q⟩, fun b u q n _ => (lay_lt (Heap.lt_size q)).trans n, fun b u q _ => ⟨u, k b u q⟩, fun b xs q => same q, fun b u xs q => same q, fun b xs q => ⟨#[], by rw [same q]; simp⟩⟩ fun b u e => ?_
  by_cases hb : b < s.heap.objs.size
  · rw [lay_lt hb] at e
    exact (I.hok b u e).stay (fun c v _ q => k c v q) (fun c q => same q) fun c xs q => same q
  · have e : (ps.lookup b).map HO.tup = some u := by
      have e2 : (if b < s.heap.objs.size then H b else (ps.lookup b).map HO.tup) = some u := e
      rwa [if_neg hb] at e2
    cases hq : ps.lookup b with
    | none => rw [hq] at e; cases e
    | some xs =>
      rw [hq] at e; cases e
      obtain ⟨z, us, r, t⟩ := hl _ (mem_of_lookupA hq)
      exact ⟨z, us, r, t⟩
end
theorem rds_pairs {K : PySem.W.Frag} {J : Jn} {H : Hp} : ∀ {ds : List D} {vs : List V} {ps : List (Addr × List V)} {n : Nat}, RDs K J H ds vs → ps.map (·.2) = pairsV n vs → (∀ p ∈ ps, p.1 ∉ J.l ∧ p.1 ∉ J.z ∧ H p.1 = some (.tup p.2)) → RDs K J H (enumD n ds) (ps.map fun p => V.ref p.1)
  | _, _, [], _, .nil, _, _ => .nil
  | _, _, _ :: _, _, .nil, e, _ => by cases e
  | _, _, [], _, .cons _ _, e, _ => by cases e
  | d :: ds, v :: vs, p :: ps, n, .cons r t, e, hp => by
    rw [List.map_cons] at e
    have e1 : p.2 = [.int (n : Int), v] := (List.cons.inj e).1
    obtain ⟨q1, q2, q3⟩ := hp p List.mem_cons_self
    rw [e1] at q3
    exact .cons (.tup q1 q2 q3 (by show 2 ≤ sizeLine; decide) (.cons (.int _) (.cons r .nil))) (rds_pairs t (List.cons.inj e).2 fun q hq => hp q (List.mem_cons_of_mem _ hq))
theorem vals_refs : ∀ (ps : List (Addr × List V)), Vals (ps.map fun p => V.ref p.1) (ps.map fun p => Value.ref p.1)
  | [] => .nil
  | p :: ps => .cons rfl (vals_refs ps)
section
variable {X : Cx} {pins : List (Addr × Obj)} {σ : L2.St} {H : Hp} {s : Shared} {J : Jn} {h : Hh}
/-- tuple(enumerate(a tuple)) -/
theorem tenum_run {a : Addr} {ds : List D} {Q : VK} (hc : X.calm = true) (I : L2.Inv X pins σ H s) (rh : RH X.K J h H) (rx : RD X.K J H (.tup ds) (.ref a)) (q : ∀ J' H' v, Ext J H J' H' → RH X.K J' h H' → RD X.K J' H' (.tup (enumD 0 ds)) v → Q v H') :
    wpAny (model X.prog X.w) X.A (call (.type "enumerate") [.ref a]) (fun ev s2 => wpAny (model X.prog X.w) X.A (call (.type "tuple") [ev]) (EP X pins σ Q) X.xe s2) X.xe s := by
  obtain ⟨a', vs, ea, hq, z, rs⟩ := rx.tup_inv
  cases ea
  obtain ⟨its, rv, tp, hz⟩ := I.tuple hq
  (have hh : X.A.handled = none := I.ok.hd hc)
  have la : a < s.heap.objs.size := by obtain ⟨o, g, _⟩ := tp; exact Heap.lt_size g
  refine PVQ.call_enumT tp fun g he hi hsz kp => ?_
  have tp2 : g.IsTuple a its.toArray := (show s.heap.IsTuple a its.toArray from tp).at fun o e => kp a o e
  refine PVQ.call_tupleT (s := { s with heap := g }) hh (Nat.succ_ne_self _) (Nat.ne_of_lt la) (Nat.ne_of_lt (Nat.lt_succ_of_lt la)) (by rw [List.size_toArray, ← rv.length]; exact hz) he hi tp2 fun g' tk acc r1 r2 r3 r4 => ?_
  have keep : ∀ b u, s.heap.get? b = some u → g'.get? b = some u := fun b u e => by
    have lb := Heap.lt_size e
    exact r3 b u (Nat.ne_of_lt (Nat.lt_succ_of_lt lb)) (Nat.ne_of_lt lb) (kp b u e)
  obtain ⟨ps, p1, p2, p3, p4, _⟩ := build_ps (h := g') (e := s.heap.objs.size + 1) (n := 0) (accl := acc.toList) rv (by rw [Array.length_toList, r1, List.size_toArray]) fun j v hv => by
    obtain ⟨T, t2, x, e1, e2, e3, e4⟩ := r2 j v (by simpa using hv)
    exact ⟨T, t2, x, e1, by simpa using e2, by rw [Nat.zero_add]; exact e3, e4⟩
  have lps : ps.length = vs.length := by
    have := congrArg List.length p2
    rw [List.length_map] at this
    rw [this]
    have gen : ∀ (vs : List V) (n : Nat), (pairsV n vs).length = vs.length := by
      intro vs
      induction vs with
      | nil => intro n; rfl
      | cons v vs ih => intro n; show (pairsV (n + 1) vs).length + 1 = _; rw [ih]; rfl
    exact gen vs 0
  -- the last tuple
  have g1 : ∀ p ∈ ps, p.1 < g'.objs.size := fun p hp => by
    obtain ⟨_, _, us, _, o, go, _⟩ := p3 p hp
    exact Heap.lt_size go
  have big : s.heap.objs.size ≤ g'.objs.size := by
    have r4 : g.objs.size < g'.objs.size := r4
    rw [hsz] at r4; exact Nat.le_of_lt (Nat.lt_trans (Nat.lt_succ_of_lt (Nat.lt_succ_self _)) r4)
  let all : List (Addr × List V) := (g'.objs.size, ps.map fun p => V.ref p.1) :: ps
  have nd : (all.map (·.1)).Nodup := by
    show (g'.objs.size :: ps.map (·.1)).Nodup
    refine List.nodup_cons.mpr ⟨fun hm => ?_, p4⟩
    (obtain ⟨p, hp, e⟩ := List.mem_map.mp hm)
    have e : p.1 = g'.objs.size := e
    exact Nat.lt_irrefl _ (e ▸ g1 p hp)
  have acc2 : acc = (ps.map fun p => Value.ref p.1).toArray := by rw [← p1]
  have I2 := inv_lay (ps := all) (h' := g'.push { cls := .type "tuple", data := .seq acc }) (tk := tk) I (fun b u e => Heap.get?_push_of_some _ (keep b u e)) (fun p hp => by
    (rcases List.mem_cons.mp hp with rfl | hp)
    · exact big
    · exact Nat.le_of_lt (Nat.lt_trans (Nat.lt_succ_self _) (p3 p hp).1)) (fun p hp => by
    (rcases List.mem_cons.mp hp with rfl | hp)
    · refine ⟨by rw [List.length_map, lps]; exact z, _, vals_refs ps, ⟨_, Heap.get?_push_size _ rfl, rfl, 0, by rw [acc2]⟩⟩
    · obtain ⟨_, l2, us, ru, o, go, gc⟩ := p3 p hp
      exact ⟨Nat.le_trans l2 (by show 2 ≤ sizeLine; decide), us, ru, ⟨o, Heap.get?_push_of_some _ go, gc⟩⟩)
  have at_ : ∀ p ∈ all, s.heap.objs.size ≤ p.1 → layH s.heap.objs.size all H p.1 = some (.tup p.2) := fun p hp hb => by
    show (if p.1 < s.heap.objs.size then H p.1 else (all.lookup p.1).map HO.tup) = _
    rw [if_neg (Nat.not_lt.mpr hb), lookup_of nd hp]; rfl
  have ext : Ext J H J (layH s.heap.objs.size all H) := ⟨rfl, ⟨[], by simp, by simp⟩, fun b o _ e => (lay_lt (I.hok.lt e)).trans e⟩
  have nl : ∀ b, s.heap.objs.size ≤ b → b ∉ J.l ∧ b ∉ J.z := fun b hb => by
    have hn : H b = none := I.hok.fresh hb
    exact ⟨rh.notin hn, rh.notz hn⟩
  have rh2 : RH X.K J h (layH s.heap.objs.size all H) := ⟨rh.nd, rh.len, fun i o e => by
    obtain ⟨b, u, h1, h2, h3⟩ := rh.obj i o e
    exact ⟨b, u, h1, (lay_lt (I.hok.lt h2)).trans h2, h3.ext ext⟩, rh.apart, fun b hb => by
    cases hbu : H b with
    | none => exact absurd hbu (rh.zed b hb)
    | some u => rw [(lay_lt (I.hok.lt hbu)).trans hbu]; simp, rh.tbs⟩
  refine ⟨.ref g'.objs.size, _, I2, rfl, q J _ _ ext rh2 (.tup (nl _ big).1 (nl _ big).2 (at_ _ List.mem_cons_self big) (by rw [List.length_map, lps]; exact z) (rds_pairs (rs.ext ext) p2 fun p hp => ?_))⟩
  have hb : s.heap.objs.size ≤ p.1 := Nat.le_of_lt (Nat.lt_trans (Nat.lt_succ_self _) (p3 p hp).1)
  exact ⟨(nl _ hb).1, (nl _ hb).2, at_ p (List.mem_cons_of_mem _ hp) hb⟩
end
end PV
end

section
set_option maxRecDepth 100000
/-! PvS: t.index(n), t a tuple or a list of whole numbers, n in it; a written tuple as a frozen object whose dict is known. -/
namespace PV
open PySem PySem.Spec PyProof.Rows L2 PV
theorem intsAre_of : ∀ {ns : List Int} {us : List Value}, Vals (ns.map V.int) us → IntsAre us ns
  | [], _, .nil => .nil
  | n :: ns, _, .cons r t => by
    obtain ⟨k, rfl⟩ := r
    exact .cons n k (intsAre_of t)
section
variable {X : Cx}
def rIdx (S : PySem.W.Frag → Hp → Addr → List V → Prop) (K : PySem.W.Frag) : V → List V → Hp → VK → Prop :=
  fun x xs H Q => ∃ p, ∃ ns : List Int, ∃ z, x = .ref p ∧ xs = [.int z] ∧ S K H p (ns.map V.int) ∧ z ∈ ns ∧ Q (.int (ns.idxOf z : Nat)) H
theorem mt_tupIdx : MtR X "tuple.index" (rIdx SqT X.K) := by
  intro pins s σ H x xs v us Q I rx rs g
  obtain ⟨p, ns, z, rfl, rfl, hq, hz, q⟩ := g
  cases rx
  (obtain ⟨u, rfl, t, rfl⟩ := vals1 rs)
  obtain ⟨its, r, pl, hl⟩ := I.tuple hq
  exact SeqAt.tuple_index_ints pl (intsAre_of r) hz ⟨.int (ns.idxOf z : Nat), H, I.tok _, ⟨_, rfl⟩, q⟩
theorem mt_lstIdx : MtR X "list.index" (rIdx SqL X.K) := by
  intro pins s σ H x xs v us Q I rx rs g
  obtain ⟨p, ns, z, rfl, rfl, hq, hz, q⟩ := g
  cases rx
  (obtain ⟨u, rfl, t, rfl⟩ := vals1 rs)
  obtain ⟨its, r, ⟨o, n, p1, p2, p3, p4⟩, hl⟩ := I.list hq
  exact SeqAt.list_index_ints ⟨o, p1, p2, n, p4⟩ (intsAre_of r) (by rw [List.length_map] at hl; exact hl) hz ⟨.int (ns.idxOf z : Nat), H, I.tok _, ⟨_, rfl⟩, q⟩
/-- a written tuple, its cell a frozen object without a dict -/
def tFtup (t : TA) : TE := fun σ H Q => t σ H fun xs H1 => xs.length ≤ sizeLine ∧ ∀ p o, H1 p = none → o.cls = .type "tuple" → o.dict = none → Q (.ref p) (upd H1 p (.frz o (.tup xs)))
theorem pe_ftup {es : List Expr} {t : TA} {pos : Pos} {x1 : Nat} (h : PA X es t) : PE X (.Tuple es x1 pos) (tFtup t) := by
  (refine ⟨fun pins s σ H Q I hq => ?_⟩)
  (refine wpAny_Tuple_spliced (thn (h.run pos pins s σ H _ I hq) fun us s1 ⟨xs, H1, I1, r, z, q⟩ => ⟨by rw [← r.length]; exact z, ?_⟩))
  (have hf : H1 s1.heap.objs.size = none := I1.hok.fresh (Nat.le_refl _))
  have e0 := Heap.get?_push_size s1.heap (o := { cls := .type "tuple", data := .seq us.toArray }) rfl
  refine ⟨.ref s1.heap.objs.size, _, I1.laid (t' := s1.toks) (fun b u e => Heap.get?_push_of_some _ e) (Nat.le_refl _) ?_, rfl, q _ { cls := .type "tuple", data := .seq us.toArray } hf rfl rfl⟩
  exact ⟨e0, z, us, r, ⟨_, e0, rfl, _, rfl⟩⟩
/-- a method of a tuple whose dict is known to be none -/
def tFM (r : V → List V → Hp → VK → Prop) (to : TE) (t : TA) : TE := fun σ H Q => to σ H fun x H1 => (∃ p o xs, x = .ref p ∧ H1 p = some (.frz o (.tup xs)) ∧ o.cls = .type "tuple" ∧ o.dict = none) ∧ t σ H1 fun xs H2 => r x xs H2 Q
theorem pe_fm {o e : Expr} {es : List Expr} {to : TE} {t : TA} {name : Str} {apos cpos : Pos} {id : String} {r : V → List V → Hp → VK → Prop} (slot : Slot "tuple" name id) (hty : typeOf (.builtin id) = pure (.type "method_descriptor")) (hm : MtR X id r) (ho : PE X o to) (ha : PA X (e :: es) t)
    (hbase : attributeBase o name X.env (eval o X.env) = eval o X.env)
    (hfew : ((backTo cpos (starEach (e :: es) X.env)).all (fun x => !x.1) && (backToKw cpos (keywordEach [] X.env)).all (fun x => x.1.isSome) && decide ((e :: es).length + ([] : List Keyword).length + (if ([] : List Keyword).isEmpty then 0 else 1) < 30)) = true)
    (hline : (apos.endLine == cpos.line) = true) (hs : starEach (e :: es) X.env = (false, eval e X.env) :: starEach es X.env) (hplain : (backTo cpos (starEach es X.env)).any (·.1) = false) :
    PE X (.Call (.Attribute o name apos) (e :: es) [] cpos) (tFM r to t) := by
  (refine ⟨fun pins s σ H Q I h => ?_⟩)
  refine wpAny_Call_method_late hbase hfew hline rfl (thn (ho.run pins s σ H _ I h) fun v s1 ⟨x, H1, I1, r1, ⟨p, ob, ys, ex, hp, hc, hd⟩, q1⟩ => ?_)
  subst ex
  cases r1
  obtain ⟨e0, _⟩ := (show ObjOk X.prog X.w H1 s1.heap p (.frz ob (.tup ys)) from I1.hok p _ hp)
  refine ⟨"tuple", id, PySem.F.plainAttrs_tuple, slot, hty, ⟨ob, e0, hc⟩, fun a ea => by cases ea; exact ⟨ob, e0, hd⟩, ?_⟩
  (have hA := ha.run cpos pins s1 σ H1 _ I1 q1)
  rw [hs] at hA ⊢
  (refine Calls.callWith_builtin (by show (false || (backTo cpos (starEach es X.env)).any (·.1)) = false; rw [hplain] <;> rfl) (Calls.evalArgs_plain ?_))
  refine thn hA fun us s2 ⟨xs, H2, I2, rs, q2⟩ => ?_
  exact hm pins s2 σ H2 (.ref p) xs (.ref p) us Q I2 rfl rs q2
end
end PV
end

section
set_option maxRecDepth 100000
namespace PV
open L2 PySem PySem.Spec PyProof.Rows
section
variable {X : Cx} {e x a b tg : Expr} {p pa pb pc : P} {pos np cpos apos : Pos} {K : PySem.W.Frag} {J : Jn} {H : Hp} {h : Hh} {es : List Expr} {pl : PL} {y : Str}

theorem lcLoop_lst (good : Hh → Bool) (turn : D → Hh → R (Option D)) : ∀ (xs acc : List D) (h : Hh) (d : D) (h' : Hh), lcLoop good turn xs acc h = .ok d h' → ∃ ds, d = .lst ds
  | [], acc, h, d, h', e => by
    unfold lcLoop at e
    split at e
    · cases e; exact ⟨_, rfl⟩
    · cases e
  | x :: xs, acc, h, d, h', e => by
    unfold lcLoop at e
    split at e
    · split at e
      · exact lcLoop_lst good turn xs _ _ d h' e
      · exact lcLoop_lst good turn xs _ _ d h' e
      · cases e
    · cases e
theorem lc_lst {f : Env → Hh → R Src} {t : Tg} {pt pe : P} (ρ : Env) (h : Hh) (d : D) (h' : Hh)
    (e : ((f ρ h).bind fun s h1 => if sizeOk s.items.length then lcLoop s.good (lcTurn t pt pe ρ) s.items [] h1 else .bad) = .ok d h') : ∃ ds, d = .lst ds := by
  cases ev : f ρ h with
  | ok s h1 =>
    rw [ev, R.bind_ok] at e
    split at e
    · exact lcLoop_lst _ _ _ _ _ _ _ e
    · cases e
  | bad => rw [ev] at e; cases e
  | err _ _ => rw [ev] at e; cases e

/-! ### an empty dict -/
theorem se_dic0 : SE X (.Dict [] [] pos) (.plain fun _ h => .ok (.ref h.length) (h ++ [.dct []])) := by
  refine SE.plain (pe_dnewK.imp fun σ H Q ⟨ρ, h, J, re, rh, q⟩ => ?_) (fun _ => rfl)
  intro p np
  have rh2 : RH X.K (J.own p) (h ++ [.dct []]) (upd H p (.dK [])) := (rh.hide np).own (rh.notz np) upd_same (.dct (Nat.zero_le _) .nil)
  refine q _ _ _ (Ext.own np (Ext.laid np)) rh2 (.ref ?_)
  show (J.l ++ [p])[h.length]? = some p
  rw [← rh.len, List.getElem?_append_right (Nat.le_refl _)]; simp

/-! ### calls -/
def plainXs : List Expr → Bool
  | [] => true
  | e :: es => plainX e && plainXs es
theorem plainXs_any (pos : Pos) (env : PySem.Env) : ∀ {es : List Expr}, plainXs es = true → (backTo pos (starEach es env)).any (·.1) = false
  | [], _ => rfl
  | e :: es, h => by
    simp only [plainXs, Bool.and_eq_true] at h
    rw [plain_star h.1]
    have := plainXs_any pos env h.2
    unfold backTo at this ⊢
    rw [List.map_cons, List.any_cons, this]; rfl
theorem glb_dbg {c : Cs} (h : c.glb y = true) : (y == ("__debug__" : Str)) = false := by
  simp only [Cs.glb, Bool.and_eq_true, Bool.not_eq_true'] at h; exact h.2
section
variable {c : Cs} {F : Fns} {G : List D} {fn : Fn} {f : Nat}
/-- the callee runs -/
theorem run_g {k : Nat} {fa : Addr} {fd : FuncData} {ps : List Str} {sp : Sp} {pins : List (Addr × Obj)} {σ : L2.St} {H : Hp} {s : Shared} {Q : VK} {args : Args} {us : List Value} {vs : List V} (hF : FnG X.prog X.w X.K X.mg X.base k fa fd ps sp) (hr : Room k X.A) (hgd : X.A.guards = some [])
    (I : L2.Inv X pins σ H s) (hb : BindsTo s fd args (ps.zip us)) (r : Vals vs us) (h : sp vs H Q E0) : wpAny (model X.prog X.w) X.A (PySem.call (.ref fa) args.pos args.kw) (EP X pins σ Q) X.xe s := by
  refine wpAny_call (codeAny_mono (hF.go hr hgd I.env0 hb r h) fun o s' hq => ?_)
  cases o with
  | error e =>
    obtain ⟨_, _, _, _, _, _, _, _, _, _, _, _, z⟩ := hq
    exact z.elim
  | ok fl =>
    cases fl with
    | ret u => exact I.after hq
    | next => exact False.elim hq
    | brk => exact False.elim hq
    | cont => exact False.elim hq
theorem se_call (o : Ok c F G X) (hc0 : c.hot = false) (hf : c.T[f]? = some fn) (hn : fn.name = y) (hg : c.glb y = true) (hp : plainXs es = true) (h0 : es = [] → pl.l = fun _ h => .ok [] h) (hlen : ∀ ρ h ds h', pl.l ρ h = .ok ds h' → ds.length = fn.P.length) (hl : SEs X es pl) :
    SE X (.Call (.Name y np) es [] pos) (.plain fun ρ h => (pl.l ρ h).bind fun xs h1 => F f xs h1) := by
  obtain ⟨k, hr, hgd, hc⟩ := (o.call hc0).ok
  obtain ⟨fa, fd, hm, hk, hF, hb, _⟩ := hc f fn hf
  rw [hn] at hm
  obtain ⟨g1, g2⟩ := glb_ok o hg
  refine SE.plain ⟨fun pins s σ H Q I ⟨ρ, h, J, re, rh, q⟩ => ?_⟩ (fun _ => rfl)
  refine wpAny_Call_Name_kw (ld_glob I g1 hm ?_ g2)
  have run : ∀ {us : List Value} {vs : List V} {J1 : Jn} {h1 : Hh} {H1 : Hp} {s1 : Shared} {ds : List D}, L2.Inv X pins σ H1 s1 → Vals vs us → RH X.K J1 h1 H1 → RDs X.K J1 H1 ds vs → ds.length = fn.P.length → Post X.K J1 H1 (rD X.K) (F f ds h1) Q →
      wpAny (model X.prog X.w) X.A (PySem.call (.ref fa) us) (EP X pins σ Q) X.xe s1 := by
    intro us vs J1 h1 H1 s1 ds I1 r rh1 rs hl1 q1
    have hul : us.length = fn.P.length := by rw [← r.length, ← rs.length]; exact hl1
    have hb1 := hb s1 us I1.kIn (by rw [List.append_nil]; exact hul)
    rw [List.append_nil] at hb1
    exact run_g (args := ⟨us, []⟩) hF hr hgd I1 hb1 r ⟨by rw [← rs.length]; exact hl1, J1, h1, ds, rs, rh1, q1.x⟩
  cases es with
  | nil =>
    rw [h0 rfl] at q
    exact PySem.W.callWith_K0 I.kIn hk (run (us := []) (ds := []) I .nil rh .nil (hlen [] [] [] [] (by rw [h0 rfl])) q)
  | cons e es =>
    simp only [plainXs, Bool.and_eq_true] at hp
    refine PySem.W.callWith_K (h₀ := X.base) I.ok.mod.kin hk (thn (hl.l.run pos pins s σ H _ I (?_ : tG X.K (rDs X.K) pl.l σ H (fun vs H1 => ∃ J1 h1 ds, RH X.K J1 h1 H1 ∧ RDs X.K J1 H1 ds vs ∧ ds.length = fn.P.length ∧ Post X.K J1 H1 (rD X.K) (F f ds h1) Q))) fun us s1 ⟨vs, H1, I1, r, J1, h1, ds, rh1, rs, hl1, q1⟩ => ⟨I1.kIn, run I1 r rh1 rs hl1 q1⟩) (plain_star hp.1 _ _) (plainXs_any _ _ hp.2)
    refine ⟨ρ, h, J, re, rh, ?_⟩
    dsimp only at q
    cases ev : pl.l ρ h with
    | bad => rw [ev] at q; exact q
    | err _ _ => rw [ev] at q; exact q
    | ok ds h1 =>
      rw [ev, R.bind_ok] at q
      exact fun J1 H1 vs e1 rh1 rs => ⟨J1, h1, ds, rh1, rs, hlen _ _ _ _ ev, Post.ext rh rh1 e1 q⟩

/-- .. within a suite -/
theorem run_q {k : Nat} {fa : Addr} {fd : FuncData} {ps : List Str} {sp : Sp} {pins : List (Addr × Obj)} {σ : L2.St} {H : Hp} {s : Shared} {Q : VK} {args : Args} {us : List Value} {vs : List V} (hF : FnQ X.prog X.w X.K X.mg X.base k fa fd ps sp) (hr : L2H.RoomH k X.A) (hgd : X.A.guards = some [])
    (I : L2.Inv X pins σ H s) (hb : BindsTo s fd args (ps.zip us)) (r : Vals vs us) (h : sp vs H Q E0) : wpAny (model X.prog X.w) X.A (PySem.call (.ref fa) args.pos args.kw) (EP X pins σ Q) X.xe s := by
  refine wpAny_call (codeAny_mono (hF.go hr hgd I.env0 hb r h) fun o s' hq => ?_)
  cases o with
  | error e =>
    obtain ⟨_, _, _, _, _, _, _, _, _, _, _, _, z⟩ := hq
    exact z.elim
  | ok fl =>
    cases fl with
    | ret u => exact I.after hq
    | next => exact False.elim hq
    | brk => exact False.elim hq
    | cont => exact False.elim hq
theorem se_callQ (o : Ok c F G X) (hq : f ∈ c.qt) (hf : c.T[f]? = some fn) (hn : fn.name = y) (hg : c.glb y = true) (hp : plainXs es = true) (h0 : es = [] → pl.l = fun _ h => .ok [] h) (hlen : ∀ ρ h ds h', pl.l ρ h = .ok ds h' → ds.length = fn.P.length) (hl : SEs X es pl) :
    SE X (.Call (.Name y np) es [] pos) (.plain fun ρ h => (pl.l ρ h).bind fun xs h1 => F f xs h1) := by
  obtain ⟨k, hr, hgd, hc⟩ := o.quiet.ok
  obtain ⟨fa, fd, hm, hk, hF, hb⟩ := hc f fn hq hf
  rw [hn] at hm
  obtain ⟨g1, g2⟩ := glb_ok o hg
  refine SE.plain ⟨fun pins s σ H Q I ⟨ρ, h, J, re, rh, q⟩ => ?_⟩ (fun _ => rfl)
  refine wpAny_Call_Name_kw (ld_glob I g1 hm ?_ g2)
  have run : ∀ {us : List Value} {vs : List V} {J1 : Jn} {h1 : Hh} {H1 : Hp} {s1 : Shared} {ds : List D}, L2.Inv X pins σ H1 s1 → Vals vs us → RH X.K J1 h1 H1 → RDs X.K J1 H1 ds vs → ds.length = fn.P.length → Post X.K J1 H1 (rD X.K) (F f ds h1) Q →
      wpAny (model X.prog X.w) X.A (PySem.call (.ref fa) us) (EP X pins σ Q) X.xe s1 := by
    intro us vs J1 h1 H1 s1 ds I1 r rh1 rs hl1 q1
    have hul : us.length = fn.P.length := by rw [← r.length, ← rs.length]; exact hl1
    have hb1 := hb s1 us I1.kIn (by rw [List.append_nil]; exact hul)
    rw [List.append_nil] at hb1
    exact run_q (args := ⟨us, []⟩) hF hr hgd I1 hb1 r ⟨by rw [← rs.length]; exact hl1, J1, h1, ds, rs, rh1, q1.x⟩
  cases es with
  | nil =>
    rw [h0 rfl] at q
    exact PySem.W.callWith_K0 I.kIn hk (run (us := []) (ds := []) I .nil rh .nil (hlen [] [] [] [] (by rw [h0 rfl])) q)
  | cons e es =>
    simp only [plainXs, Bool.and_eq_true] at hp
    refine PySem.W.callWith_K (h₀ := X.base) I.ok.mod.kin hk (thn (hl.l.run pos pins s σ H _ I (?_ : tG X.K (rDs X.K) pl.l σ H (fun vs H1 => ∃ J1 h1 ds, RH X.K J1 h1 H1 ∧ RDs X.K J1 H1 ds vs ∧ ds.length = fn.P.length ∧ Post X.K J1 H1 (rD X.K) (F f ds h1) Q))) fun us s1 ⟨vs, H1, I1, r, J1, h1, ds, rh1, rs, hl1, q1⟩ => ⟨I1.kIn, run I1 r rh1 rs hl1 q1⟩) (plain_star hp.1 _ _) (plainXs_any _ _ hp.2)
    refine ⟨ρ, h, J, re, rh, ?_⟩
    dsimp only at q
    cases ev : pl.l ρ h with
    | bad => rw [ev] at q; exact q
    | err _ _ => rw [ev] at q; exact q
    | ok ds h1 =>
      rw [ev, R.bind_ok] at q
      exact fun J1 H1 vs e1 rh1 rs => ⟨J1, h1, ds, rh1, rs, hlen _ _ _ _ ev, Post.ext rh rh1 e1 q⟩

/-- the callee runs, an exception goes on -/
theorem run_gX {W : WX} {k : Nat} {fa : Addr} {fd : FuncData} {ps : List Str} {sp : Sp} {pins : List (Addr × Obj)} {σ : L2.St} {H : Hp} {s : Shared} {Q : VK} {args : Args} {us : List Value} {vs : List V} (hF : FnG X.prog X.w X.K X.mg X.base k fa fd ps sp) (hr : Room k X.A) (hgd : X.A.guards = some []) (tk : L2N.Takes X W)
    (I : L2.Inv X pins σ H s) (hb : BindsTo s fd args (ps.zip us)) (r : Vals vs us) (h : sp vs H Q (WE W σ)) : wpAny (model X.prog X.w) X.A (PySem.call (.ref fa) args.pos args.kw) (EP X pins σ Q) X.xe s := by
  refine wpAny_call (codeAny_mono (hF.go hr hgd I.env0 hb r h) fun o s' hq => ?_)
  cases o with
  | error e => exact tk e s' (L2N.XE.of_call I (fun _ _ _ z => z) hq)
  | ok fl =>
    cases fl with
    | ret u => exact I.after hq
    | next => exact (False.elim hq)
    | brk => exact (False.elim hq)
    | cont => exact (False.elim hq)
/-- what is wanted behind a call whose exception goes on -/
def tCX (X : Cx) (W : WX) (F : Fns) (f n : Nat) (l : Env → Hh → R (List D)) : TE := fun σ H Q => tG X.K (rDs X.K) l σ H (fun vs H1 => ∃ J1 h1 ds, RH X.K J1 h1 H1 ∧ RDs X.K J1 H1 ds vs ∧ ds.length = n ∧ PostX X.K X.mg (WE W σ) J1 H1 (rD X.K) (F f ds h1) Q)
theorem pe_callX {W : WX} (o : Ok c F G X) (hc0 : c.hot = false) (tk : L2N.Takes X W) (hf : c.T[f]? = some fn) (hn : fn.name = y) (hg : c.glb y = true) (hp : plainXs es = true) (h0 : es = [] → pl.l = fun _ h => .ok [] h) (hl : SEs X es pl) :
    PE X (.Call (.Name y np) es [] pos) (tCX X W F f fn.P.length pl.l) := by
  obtain ⟨k, hr, hgd, hc⟩ := (o.call hc0).ok
  obtain ⟨fa, fd, hm, hk, hF, hb, _⟩ := hc f fn hf
  rw [hn] at hm
  obtain ⟨g1, g2⟩ := glb_ok o hg
  (refine ⟨fun pins s σ H Q I q => ?_⟩)
  refine wpAny_Call_Name_kw (ld_glob I g1 hm ?_ g2)
  have run : ∀ {us : List Value} {vs : List V} {J1 : Jn} {h1 : Hh} {H1 : Hp} {s1 : Shared} {ds : List D}, L2.Inv X pins σ H1 s1 → Vals vs us → RH X.K J1 h1 H1 → RDs X.K J1 H1 ds vs → ds.length = fn.P.length → PostX X.K X.mg (WE W σ) J1 H1 (rD X.K) (F f ds h1) Q →
      wpAny (model X.prog X.w) X.A (PySem.call (.ref fa) us) (EP X pins σ Q) X.xe s1 := by
    intro us vs J1 h1 H1 s1 ds I1 r rh1 rs hl1 q1
    have hul : us.length = fn.P.length := by rw [← r.length, ← rs.length]; exact hl1
    have hb1 := hb s1 us I1.kIn (by rw [List.append_nil]; exact hul)
    rw [List.append_nil] at hb1
    exact run_gX (args := ⟨us, []⟩) hF hr hgd tk I1 hb1 r ⟨by rw [← rs.length]; exact hl1, J1, h1, ds, rs, rh1, q1⟩
  cases es with
  | nil =>
    unfold tCX at q
    rw [h0 rfl] at q
    obtain ⟨ρ, h, J, re, rh, q⟩ := q
    obtain ⟨J1, h1, ds, rh1, rs, hl1, q1⟩ := q J H [] Ext.refl rh .nil
    exact PySem.W.callWith_K0 I.kIn hk (run (us := []) I .nil rh1 rs hl1 q1)
  | cons e es =>
    simp only [plainXs, Bool.and_eq_true] at hp
    exact PySem.W.callWith_K (h₀ := X.base) I.ok.mod.kin hk (thn (hl.l.run pos pins s σ H _ I q) fun us s1 ⟨vs, H1, I1, r, J1, h1, ds, rh1, rs, hl1, q1⟩ => ⟨I1.kIn, run I1 r rh1 rs hl1 q1⟩) (plain_star hp.1 _ _) (plainXs_any _ _ hp.2)

/-! ### calls with keywords -/
def kwNms (kws : List Keyword) : List Str := kws.filterMap (·.arg)
def kwAll (kws : List Keyword) : Bool := kws.all (·.arg.isSome)
theorem kws_facts (pos : Pos) (env : PySem.Env) : ∀ {kws : List Keyword}, kwAll kws = true → (backToKw pos (keywordEach kws env)).all (·.1.isSome) = true ∧ (backToKw pos (keywordEach kws env)).filterMap (·.1) = kwNms kws ∧ (backToKw pos (keywordEach kws env)).any (·.1.isNone) = false
  | [], _ => ⟨rfl, rfl, rfl⟩
  | ⟨nm, e, kp⟩ :: kws, h => by
    simp only [kwAll, List.all_cons, Bool.and_eq_true] at h
    obtain ⟨i1, i2, i3⟩ := kws_facts pos env (kws := kws) h.2
    cases nm with
    | none => cases h.1
    | some nm =>
      refine ⟨?_, ?_, ?_⟩
      · show (true && _) = true
        exact i1
      · exact congrArg (nm :: ·) i2
      · show (false || _) = false
        exact i3
theorem vals_getD : ∀ {vs : List V} {us : List Value} (k : Nat), Vals vs us → RelV (vs.getD k .non) (us.getD k .none)
  | _, _, _, .nil => by simp; rfl
  | _, _, 0, .cons r _ => r
  | _, _, k + 1, .cons _ t => by simpa using vals_getD k t
theorem vals_pm {vs zs : List V} {us ws : List Value} (r : Vals vs us) (z : Vals zs ws) : ∀ pm : List Nat, Vals (pmD .non pm vs zs) (pmD .none pm us ws)
  | [] => .nil
  | k :: pm => .cons (vals_getD k (r.append z)) (vals_pm r z pm)
theorem rds_getD {K : PySem.W.Frag} {J : Jn} {H : Hp} : ∀ {ds : List D} {vs : List V} (k : Nat), RDs K J H ds vs → RD K J H (ds.getD k .non) (vs.getD k .non)
  | _, _, _, .nil => by simp; exact .non
  | _, _, 0, .cons r _ => r
  | _, _, k + 1, .cons _ t => by simpa using rds_getD k t
theorem rds_pm {K : PySem.W.Frag} {J : Jn} {H : Hp} {ds es : List D} {vs ws : List V} (r : RDs K J H ds vs) (z : RDs K J H es ws) : ∀ pm : List Nat, RDs K J H (pmD .non pm ds es) (pmD .non pm vs ws)
  | [] => .nil
  | k :: pm => .cons (rds_getD k (r.append z)) (rds_pm r z pm)
theorem pm_len {α : Type} {d : α} {pm : List Nat} {xs ys : List α} : (pmD d pm xs ys).length = pm.length := by simp [pmD]
theorem se_callK {kws : List Keyword} {pk : PL} {n : Nat} {pm : List Nat} (o : Ok c F G X) (hc0 : c.hot = false) (hf : c.T[f]? = some fn) (hn : fn.name = y) (hg : c.glb y = true) (hp : plainXs es = true) (hq : (n, kwNms kws, pm) ∈ fn.kw) (h0 : es = [] → pl.l = fun _ h => .ok [] h)
    (hlen : ∀ ρ h ds h', pl.l ρ h = .ok ds h' → ds.length = n) (hkl : ∀ ρ h ds h', pk.l ρ h = .ok ds h' → ds.length = (kwNms kws).length) (hka : kwAll kws = true) (hl : SEs X es pl) (hk : SEs X (kws.map (·.value)) pk) :
    SE X (.Call (.Name y np) es kws pos) (.plain fun ρ h => (pl.l ρ h).bind fun xs h1 => (pk.l ρ h1).bind fun ys h2 => F f (pmD .non pm xs ys) h2) := by
  obtain ⟨k, hr, hgd, hc⟩ := (o.call hc0).ok
  obtain ⟨fa, fd, hm, hkp, hF, hb, hkw⟩ := hc f fn hf
  have hkw := hkw _ hq
  rw [hn] at hm
  obtain ⟨g1, g2⟩ := glb_ok o hg
  obtain ⟨k1, k2, k3⟩ := kws_facts pos X.env hka
  refine SE.plain ⟨fun pins s σ H Q I ⟨ρ, h, J, re, rh, q⟩ => ?_⟩ (fun _ => rfl)
  refine wpAny_Call_Name_kw (ld_glob I g1 hm ?_ g2)
  -- the keywords and the call
  have tail : ∀ {us : List Value} {vs : List V} {J1 : Jn} {h1 : Hh} {H1 : Hp} {s1 : Shared} {ds : List D}, Inv X pins σ H1 s1 → Vals vs us → RE X.K J1 H1 ρ σ → RH X.K J1 h1 H1 → RDs X.K J1 H1 ds vs → vs.length = n →
      Post X.K J1 H1 (rD X.K) ((pk.l ρ h1).bind fun ys h2 => F f (pmD .non pm ds ys) h2) Q →
      wpAny (model X.prog X.w) X.A (evalAll ((backToKw pos (keywordEach kws X.env)).map (·.2))) (fun ks s₂ => X.K.In s₂.heap ∧ wpAny (model X.prog X.w) X.A (PySem.call (.ref fa) us (((backToKw pos (keywordEach kws X.env)).filterMap (·.1)).zip ks)) (EP X pins σ Q) X.xe s₂) X.xe s1 := by
    intro us vs J1 h1 H1 s1 ds I1 r re1 rh1 rs hl1 q1
    have hd : tG X.K (rDs X.K) pk.l σ H1 (fun zs H2 => zs.length = (kwNms kws).length ∧ ∃ J2 h2 es, RDs X.K J2 H2 (pmD .non pm ds es) (pmD .non pm vs zs) ∧ RH X.K J2 h2 H2 ∧ Post X.K J2 H2 (rD X.K) (F f (pmD .non pm ds es) h2) Q) := by
      refine ⟨ρ, h1, J1, re1, rh1, ?_⟩
      cases ev : pk.l ρ h1 with
      | bad => rw [ev] at q1; exact q1
      | err _ _ => rw [ev] at q1; exact q1
      | ok es h2 =>
        rw [ev, R.bind_ok] at q1
        intro J2 H2 zs e2 rh2 rz
        exact ⟨by rw [← rz.length]; exact hkl _ _ _ _ ev, J2, h2, es, rds_pm (rs.ext e2) rz pm, rh2, Post.ext rh1 rh2 e2 q1⟩
    refine thn ((hk.kw kws rfl).run pos pins s1 σ H1 _ I1 hd) fun ws s2 ⟨zs, H2, I2, rz, hzl, J2, h2, es, rr, rh2, q2⟩ => ⟨I2.kIn, ?_⟩
    rw [k2]
    refine run_g (args := ⟨us, (kwNms kws).zip ws⟩) hF hr hgd I2 (hkw.to s2 us ws I2.kIn ?_ ?_) (vals_pm r rz pm) ⟨?_, J2, h2, _, rr, rh2, q2.x⟩
    · rw [← r.length]; exact hl1
    · rw [← rz.length]; exact hzl
    · rw [pm_len, hkw.len]
  cases es with
  | nil =>
    rw [h0 rfl] at q
    refine PySem.W.callWith_KW0 (h₀ := X.base) I.ok.mod.kin hkp k1 (tail I .nil re rh .nil ?_ q) (by rw [k3]; rfl)
    have := hlen [] [] [] [] (by rw [h0 rfl])
    exact this
  | cons e es =>
    have hp' := hp
    simp only [plainXs, Bool.and_eq_true] at hp'
    refine PySem.W.callWith_KW (h₀ := X.base) I.ok.mod.kin hkp k1 (thn (hl.l.run pos pins s σ H _ I (?_ : tG X.K (rDs X.K) pl.l σ H (fun vs H1 => vs.length = n ∧ ∃ J1 h1 ds, RE X.K J1 H1 ρ σ ∧ RH X.K J1 h1 H1 ∧ RDs X.K J1 H1 ds vs ∧ Post X.K J1 H1 (rD X.K) ((pk.l ρ h1).bind fun ys h2 => F f (pmD .non pm ds ys) h2) Q))) fun us s1 ⟨vs, H1, I1, r, hvl, J1, h1, ds, re1, rh1, rs, q1⟩ => tail I1 r re1 rh1 rs hvl q1) (by rw [plainXs_any pos X.env hp, k3]; rfl) (plain_star hp'.1 _ _)
    refine ⟨ρ, h, J, re, rh, ?_⟩
    dsimp only at q
    cases ev : pl.l ρ h with
    | bad => rw [ev] at q; exact q
    | err _ _ => rw [ev] at q; exact q
    | ok ds h1 =>
      rw [ev, R.bind_ok] at q
      intro J1 H1 vs e1 rh1 rs
      exact ⟨by rw [← rs.length]; exact hlen _ _ _ _ ev, J1, h1, ds, re.ext e1, rh1, rs, Post.ext rh rh1 e1 q⟩

/-! ### built-in functions -/
def bfNm : Bf → Str
  | .len => "len" | .int => "int" | .abs => "abs" | .tuple => "tuple" | .list => "list" | .max2 => "max" | .min2 => "min" | .sum => "sum" | .all => "all" | .any => "any" | .sorted => "sorted" | .repr => "repr" | .minD => "min"
theorem bf_do {σ : L2.St} {H : Hp} {Q : VK} {f : Hh → List D → Option D} (t : tG X.K (rD X.K) (fun ρ h => (pl.l ρ h).bind fun xs h1 => R.opt (f h1 xs) h1) σ H Q) : tCB (rBf X.K f) (tG X.K (rDs X.K) pl.l) σ H Q := by
  obtain ⟨ρ, h, J, re, rh, q⟩ := t
  refine (Post.step (R1 := rDs X.K) (f := pl.l) re rh q).mono fun xs H1 ⟨J1, h1, ds, e1, re1, rh1, rs, q1⟩ => ?_
  obtain ⟨d, hd, q2⟩ := Post.optX q1
  exact ⟨J1, h1, ds, d, rh1, rs, hd, q2⟩
theorem se_bfB {id : String} {f : Hh → List D → Option D} (hc : CallR X (.builtin id) (rBf X.K f)) (hb : bootBuiltins y = some (.builtin id)) (hn : y ≠ "__name__") (o : Ok c F G X) (hm : y ∈ c.bs) (hg : c.glb y = true) (he : plainXs (e :: es) = true) (hl : SEs X (e :: es) pl) :
    SE X (.Call (.Name y np) (e :: es) [] pos) (.plain fun ρ h => (pl.l ρ h).bind fun xs h1 => R.opt (f h1 xs) h1) := by
  simp only [plainXs, Bool.and_eq_true] at he
  exact SE.plain ((pe_callB hc (glb_ok o hg).1 (o.blt y hm) hb hl.l hn (glb_ok o hg).2 (plain_star he.1 _ _) (plainXs_any _ _ he.2)).imp fun σ H Q t => bf_do t) (fun _ => rfl)
theorem se_bfT {id : String} {f : Hh → List D → Option D} (hc : CallR X (.type id) (rBf X.K f)) (hb : bootBuiltins y = some (.type id)) (hn : y ≠ "__name__") (o : Ok c F G X) (hm : y ∈ c.bs) (hg : c.glb y = true) (he : plainXs (e :: es) = true) (hl : SEs X (e :: es) pl) :
    SE X (.Call (.Name y np) (e :: es) [] pos) (.plain fun ρ h => (pl.l ρ h).bind fun xs h1 => R.opt (f h1 xs) h1) := by
  simp only [plainXs, Bool.and_eq_true] at he
  exact SE.plain ((pe_callTy hc (glb_ok o hg).1 (o.blt y hm) hb hl.l hn (glb_ok o hg).2 (plain_star he.1 _ _) (plainXs_any _ _ he.2)).imp fun σ H Q t => bf_do t) (fun _ => rfl)
def bfOn : Bf → Bool
  | .list => false
  | _ => true
theorem se_bf {f : Bf} (hf : bfOn f = true) (o : Ok c F G X) (hc0 : c.hot = false) (hm : bfNm f ∈ c.bs) (hg : c.glb (bfNm f) = true) (he : plainXs (e :: es) = true) (hl : SEs X (e :: es) pl) :
    SE X (.Call (.Name (bfNm f) np) (e :: es) [] pos) (.plain fun ρ h => (pl.l ρ h).bind fun xs h1 => R.opt (opBf f h1 xs) h1) := by
  cases f with
  | len => exact se_bfB bf_len rfl (by decide) o hm hg he hl
  | int => exact se_bfT bf_int rfl (by decide) o hm hg he hl
  | abs => exact se_bfB bf_abs rfl (by decide) o hm hg he hl
  | tuple => exact se_bfT bf_tuple rfl (by decide) o hm hg he hl
  | max2 => exact se_bfB (bf_max (o.calm hc0)) rfl (by decide) o hm hg he hl
  | min2 => exact se_bfB (bf_min (o.calm hc0)) rfl (by decide) o hm hg he hl
  | sum => exact se_bfB (bf_sum (o.calm hc0)) rfl (by decide) o hm hg he hl
  | all => exact se_bfB (bf_all (o.calm hc0)) rfl (by decide) o hm hg he hl
  | any => exact se_bfB (bf_any (o.calm hc0)) rfl (by decide) o hm hg he hl
  | repr => exact se_bfB (bf_repr o.units o.guards) rfl (by decide) o hm hg he hl
  | minD => exact se_bfB (bf_minD (o.calm hc0)) rfl (by decide) o hm hg he hl
  | sorted => exact se_bfB (bf_sorted (o.calm hc0)) rfl (by decide) o hm hg he hl
  | _ => cases hf
/-- list(x): a new list -/
theorem se_listF (o : Ok c F G X) (hm : ("list" : Str) ∈ c.bs) (hg : c.glb "list" = true) (he : plainXs (e :: es) = true) (hl : SEs X (e :: es) pl) :
    PE X (.Call (.Name "list" np) (e :: es) [] pos) (tF X.K fun ρ h => (pl.l ρ h).bind fun xs h1 => R.opt (opBf .list h1 xs) h1) := by
  simp only [plainXs, Bool.and_eq_true] at he
  refine (pe_callTy bf_list (glb_ok o hg).1 (o.blt _ hm) rfl hl.l (by decide) (glb_ok o hg).2 (plain_star he.1 _ _) (plainXs_any _ _ he.2)).imp fun σ H Q ⟨ρ, h, J, re, rh, q⟩ => ?_
  refine ⟨ρ, h, J, re, rh, ?_⟩
  dsimp only at q
  cases ev : pl.l ρ h with
  | bad => rw [ev] at q; exact False.elim q
  | err _ _ => rw [ev] at q; exact False.elim q
  | ok ds h1 =>
    rw [ev, R.bind_ok] at q
    intro J1 H1 vs e1 rh1 rs
    have hb : opBf .list h1 ds = bfList h1 ds := rfl
    rw [hb] at q
    cases ed : bfList h1 ds with
    | none => rw [ed] at q; exact False.elim q
    | some d =>
      rw [ed] at q
      refine ⟨J1, h1, ds, d, rh1, rs, ed, fun p ys ws hd np hz rr => ?_⟩
      subst hd
      refine q (J1.hide p) _ p ws ⟨rfl, e1.pre, fun a o n q => by rw [upd_ne (ne_of_none (e1.keep a o n q) np)]; exact e1.keep a o n q⟩ ?_ (rh1.hide np) upd_same hz ((rr.sub (Sub.hide np)).ext (Ext.laid np)) ?_
      · show p :: J1.z = p :: J.z; rw [e1.z]
      · cases hp : H p with
        | none => rfl
        | some u =>
          exfalso
          by_cases n : p ∈ J.l
          · obtain ⟨m, hm, _⟩ := e1.pre
            obtain ⟨u', h2⟩ := rh1.inl (a := p) (by rw [hm]; exact List.mem_append_left _ n)
            rw [np] at h2; cases h2
          · have := e1.keep p u n hp; rw [np] at this; cases this
theorem se_list (o : Ok c F G X) (hm : ("list" : Str) ∈ c.bs) (hg : c.glb "list" = true) (he : plainXs (e :: es) = true) (hl : SEs X (e :: es) pl) :
    SE X (.Call (.Name "list" np) (e :: es) [] pos) (.plain fun ρ h => (pl.l ρ h).bind fun xs h1 => R.opt (opBf .list h1 xs) h1) := by
  refine SE.plain (tF_val (se_listF o hm hg he hl) fun ρ h d h' e => ?_) (fun _ => rfl)
  cases ev : pl.l ρ h with
  | bad => rw [ev] at e; cases e
  | err _ _ => rw [ev] at e; cases e
  | ok ds h1 =>
    rw [ev, R.bind_ok] at e
    have hb : opBf .list h1 ds = bfList h1 ds := rfl
    rw [hb] at e
    unfold bfList at e
    split at e
    · rename_i x
      cases es : x.seq h1 with
      | none => rw [es] at e; cases e
      | some ys => rw [es] at e; cases e; exact ⟨_, rfl⟩
    · cases e

/-! ### isinstance -/
def tyNm : Ty → Str
  | .int => "int" | .str => "str" | .tup => "tuple" | .lst => "list" | .bl => "bool" | .dct => "dict" | .non => "NoneType"
theorem tyNm_boot (t : Ty) (ht : t ≠ .non) : bootBuiltins (tyNm t) = some (.type t.nm) := by cases t <;> first | rfl | exact absurd rfl ht
theorem se_isi {t : Ty} {ty : Str} {tp : Pos} (ht : t ≠ .non) (hty : ty = tyNm t) (o : Ok c F G X) (hm : ("isinstance" : Str) ∈ c.bs) (hg : c.glb "isinstance" = true) (hm2 : ty ∈ c.bs) (hg2 : c.glb ty = true) (hp : plainX a = true) (ha : SE X a pa) :
    SE X (.Call (.Name "isinstance" np) [a, .Name ty tp] [] pos) (.plain fun ρ h => (pa.v ρ h).bind fun x h1 => if x.isO h1 then .bad else .ok (.bl (opIsi t h1 x)) h1) := by
  subst hty
  refine SE.plain ((pe_callB (isi_ops (t := t)) (glb_ok o hg).1 (o.blt _ hm) rfl (pa_cons ha.v (pa_cons (pe_bltn (v := .ty t.nm) (glb_ok o hg2).1 (o.blt _ hm2) (tyNm_boot t ht) rfl (by cases t <;> decide) (glb_ok o hg2).2) pa_nil) (plain_star hp _ _)) (by decide) (glb_ok o hg).2 (plain_star hp _ _) rfl).imp fun σ H Q ⟨ρ, h, J, re, rh, q⟩ => ?_) (fun _ => rfl)
  refine (Post.step (R1 := rD X.K) (f := pa.v) re rh q).mono fun x H1 ⟨J1, h1, dx, e1, re1, rh1, rx, q1⟩ => ?_
  split at q1
  · exact False.elim q1
  · rename_i hf
    exact ⟨J1, h1, dx, x, rh1, by simpa using hf, rx, rfl, q1 J1 H1 _ Ext.refl rh1 (.bl _)⟩

/-! ### methods -/
def mtNm : Mt → Str
  | .append => "append" | .pop => "pop" | .popAt => "pop" | .index => "index" | .count => "count"
theorem isL_ty {K : PySem.W.Frag} {J : Jn} {H : Hp} {h : Hh} {d : D} {v : V} (rh : RH K J h H) (r : RD K J H d v) (e : d.isL h = true) : tyV K "list" v H := by
  cases r with
  | lst n m q z rr => exact .inl ⟨rfl, _, .inl (.inl q)⟩
  | fz n m q z rr => exact .inl ⟨rfl, _, .inl (.inr ⟨_, q⟩)⟩
  | kfz k z rr => exact .inl ⟨rfl, _, .inr k⟩
  | ref q =>
    obtain ⟨o, u, h1, h2, h3⟩ := rh.at q
    simp only [D.isL, h1] at e
    cases h3 with
    | lst z rr => exact .inl ⟨rfl, _, .inl (.inl h2)⟩
    | dct z rr => cases e
    | tb _ _ => cases e
  | _ => cases e
theorem mth_do {r : V → List V → Hp → VK → Prop} {m : Mt} {ol : PL} {σ : L2.St} {H : Hp} {Q : VK} (hr : ∀ x xs H Q, rMt X.K m x xs H Q → r x xs H Q)
    (t : tG X.K (rD X.K) (fun ρ h => (pa.v ρ h).bind fun x h1 => if x.isL h1 then (ol.l ρ h1).bind fun xs h2 => mthOp m x xs h2 else .bad) σ H Q) : tBM X.K "list" r (tG X.K (rD X.K) pa.v) (tG X.K (rDs X.K) ol.l) σ H Q := by
  obtain ⟨ρ, h, J, re, rh, q⟩ := t
  refine (Post.step (R1 := rD X.K) (f := pa.v) re rh q).mono fun x H1 ⟨J1, h1, dx, e1, re1, rh1, rx, q1⟩ => ?_
  cases hx : dx.isL h1 with
  | false => rw [hx] at q1; exact False.elim q1
  | true =>
    rw [hx] at q1
    simp only [if_true] at q1
    refine ⟨isL_ty rh1 rx hx, ?_⟩
    refine (Post.step (R1 := rDs X.K) (f := ol.l) re1 rh1 q1).mono fun xs H2 ⟨J2, h2, ds, e2, re2, rh2, rs, q2⟩ => hr _ _ _ _ ?_
    cases ev : mthOp m dx ds h2 with
    | bad => rw [ev] at q2; exact False.elim q2
    | err _ _ => rw [ev] at q2; exact False.elim q2
    | ok d h3 => rw [ev] at q2; exact ⟨J2, h2, dx, ds, d, h3, rh2, rx.ext e2, rs, ev, q2⟩
def mtOn : Mt → Bool
  | .append => true | .pop => true | .popAt => true
  | _ => false
def mtIx : Mt → Bool
  | .index => true
  | .count => true
  | _ => false
def baseX : Expr → Bool
  | .Call _ [] _ _ => false
  | _ => true
theorem base_of {a : Expr} {m : Str} {env : PySem.Env} {w : Sem Value} (h : baseX a = true) : attributeBase a m env w = w := by
  cases a with
  | Call f as ks p =>
    cases as with
    | nil => cases h
    | cons a as => cases f <;> rfl
  | _ => rfl
theorem few_of (cpos : Pos) (env : PySem.Env) {es : List Expr} (h : plainXs es = true) (hl : es.length < 30) : ((backTo cpos (starEach es env)).all (fun x => !x.1) && (backToKw cpos (keywordEach [] env)).all (fun x => x.1.isSome)
      && decide (es.length + ([] : List Keyword).length + (if ([] : List Keyword).isEmpty then 0 else 1) < 30)) = true := by
  have h1 : (backTo cpos (starEach es env)).all (fun x => !x.1) = true := by
    have := plainXs_any cpos env h
    rw [List.any_eq_false] at this
    rw [List.all_eq_true]
    intro x hx
    have := this x hx
    simpa using this
  rw [h1]
  simp only [Bool.true_and, Bool.and_eq_true, decide_eq_true_eq]
  exact ⟨rfl, by simpa using hl⟩
theorem se_mth {m : Mt} {es : List Expr} (hm : mtOn m = true) (hx : baseX a = true) (hline : (apos.endLine == cpos.line) = true) (hp : plainXs es = true) (hlen : es.length < 30) (h0 : es = [] → pl.l = fun _ h => .ok [] h) (ha : SE X a pa) (hl : SEs X es pl) :
    SE X (.Call (.Attribute a (mtNm m) apos) es [] cpos) (.plain fun ρ h => (pa.v ρ h).bind fun x h1 => if x.isL h1 then (pl.l ρ h1).bind fun xs h2 => mthOp m x xs h2 else .bad) := by
  have gen : ∀ {id : String} {r : V → List V → Hp → VK → Prop}, Slot "list" (mtNm m) id → typeOf (.builtin id) = pure (.type "method_descriptor") → MtR X id r → (∀ x xs H Q, rMt X.K m x xs H Q → r x xs H Q) →
      SE X (.Call (.Attribute a (mtNm m) apos) es [] cpos) (.plain fun ρ h => (pa.v ρ h).bind fun x h1 => if x.isL h1 then (pl.l ρ h1).bind fun xs h2 => mthOp m x xs h2 else .bad) := by
    intro id r slot hty hmt hr
    refine SE.plain ?_ (fun _ => rfl)
    cases es with
    | nil =>
      refine (pe_bm0 PySem.F.plainAttrs_list slot hty hmt ha.v (base_of hx) hline).imp fun σ H Q t => ?_
      refine (mth_do hr t).mono fun x H1 ⟨ty, ρ, h, J, re, rh, q⟩ => ⟨ty, ?_⟩
      rw [h0 rfl] at q
      exact q J H1 [] Ext.refl rh .nil
    | cons e es =>
      have hp' := hp
      simp only [plainXs, Bool.and_eq_true] at hp'
      exact (pe_bm PySem.F.plainAttrs_list slot hty hmt ha.v hl.l (base_of hx) (few_of _ _ hp hlen) hline (plain_star hp'.1 _ _) (plainXs_any _ _ hp'.2)).imp fun σ H Q t => mth_do hr t
  cases m with
  | append => exact gen PySem.F.slot_list_append rfl mt_appendD fun _ _ _ _ z => z
  | pop => exact gen PySem.F.slot_list_pop rfl mt_popD fun _ _ _ _ z => .inl z
  | popAt => exact gen PySem.F.slot_list_pop rfl mt_popD fun _ _ _ _ z => .inr z
  | _ => cases hm

/-! ### a written tuple whose object is known; t.index(n) -/
theorem se_ftup {es : List Expr} {pl : PL} {k : Nat} (hl : SEs X es pl) : SE X (.Tuple es k pos) (.plain fun ρ h => (pl.l ρ h).bind fun xs h1 => if sizeOk xs.length then .ok (.ftup xs) h1 else .bad) := by
  refine SE.plain ((pe_ftup hl.l).imp fun σ H Q ⟨ρ, h, J, re, rh, q⟩ => ?_) (fun _ => rfl)
  refine (Post.step (R1 := rDs X.K) (f := pl.l) re rh q).mono fun xs H1 ⟨J1, h1, ds, e1, re1, rh1, rs, q1⟩ => ?_
  split at q1
  · rename_i hz
    have hz' : xs.length ≤ sizeLine := by rw [← rs.length]; exact size_of hz
    exact ⟨hz', fun p o np hc hd => q1 _ _ _ (Ext.laid np) (rh1.laid np) (.ft (rh1.notin np) (rh1.notz np) upd_same hc hd hz' (rs.ext (Ext.laid np)))⟩
  · exact False.elim q1
theorem tint_rel {K : PySem.W.Frag} {J : Jn} {H : Hp} : ∀ {ds : List D} {vs : List V} {ns : List Int}, RDs K J H ds vs → D.ints ds = some ns → vs = ns.map V.int
  | [], _, _, .nil, e => by cases e; rfl
  | d :: ds, _, ns, .cons r t, e => by
    cases d with
    | int i =>
      simp only [D.ints, Option.map_eq_some_iff] at e
      obtain ⟨ms, e1, rfl⟩ := e
      cases r
      rw [tint_rel t e1]; rfl
    | _ => cases e
theorem stepAt {K : PySem.W.Frag} {J : Jn} {H : Hp} {h h1 : Hh} {ρ : PV.Env} {σ : L2.St} {f : PV.Env → Hh → R D} {g : D → Hh → R D} {Q : VK} {dx : D} (re : RE K J H ρ σ) (rh : RH K J h H) (ev : f ρ h = .ok dx h1) (p : Post K J H (rD K) ((f ρ h).bind g) Q) :
    tG K (rD K) f σ H (fun b H1 => ∃ J1, Ext J H J1 H1 ∧ RE K J1 H1 ρ σ ∧ RH K J1 h1 H1 ∧ rD K J1 H1 dx b ∧ Post K J1 H1 (rD K) (g dx h1) Q) := by
  refine ⟨ρ, h, J, re, rh, ?_⟩
  rw [ev] at p ⊢
  exact fun J1 H1 b e rh1 rl => ⟨J1, e, re.ext e, rh1, rl, Post.ext rh rh1 e p⟩
theorem idx_inv {ds xs : List D} {d : D} (e : idxD ds xs = some d) : ∃ z ns, xs = [.int z] ∧ D.ints ds = some ns ∧ z ∈ ns ∧ d = .int (ns.idxOf z : Nat) := by
  unfold idxD at e
  split at e
  · rename_i z
    simp only [Option.bind_eq_some_iff] at e
    obtain ⟨ns, h1, h2⟩ := e
    split at h2
    · rename_i hz; cases h2; exact ⟨z, ns, rfl, h1, hz, rfl⟩
    · cases h2
  · cases e
theorem ixs_st {K : PySem.W.Frag} {J2 : Jn} {H2 : Hp} {h2 : Hh} {d : D} {v : V} {ds : List D} (rh2 : RH K J2 h2 H2) (r : RD K J2 H2 d v) (hf : d.isF = false) (e : d.ixs h2 = some ds) : ∃ p vs, v = .ref p ∧ SqL K H2 p vs ∧ RDs K J2 H2 ds vs := by
  cases d with
  | lst xs =>
    cases e
    obtain ⟨p, vs, rfl, hq, z, rr⟩ := res_inv rh2 rfl r
    exact ⟨p, vs, rfl, hq, rr⟩
  | fz xs =>
    cases e
    obtain ⟨p, vs, rfl, hq, z, rr⟩ := res_inv rh2 rfl r
    exact ⟨p, vs, rfl, hq, rr⟩
  | ref i =>
    cases r with
    | ref q =>
      obtain ⟨o, u, h1, h2', h3⟩ := rh2.at q
      simp only [D.ixs, h1] at e
      cases h3 with
      | lst z rr => cases e; exact ⟨_, _, rfl, .inl (.inl h2'), rr⟩
      | dct z rr => cases e
      | tb _ _ => cases e
  | ftup xs => cases hf
  | _ => cases e
theorem se_tidx {es : List Expr} {e0 : Expr} (hx : baseX a = true) (hline : (apos.endLine == cpos.line) = true) (hp : plainXs (e0 :: es) = true) (hlen : (e0 :: es).length < 30) (ha : SE X a pa) (hl : SEs X (e0 :: es) pl) :
    SE X (.Call (.Attribute a "index" apos) (e0 :: es) [] cpos) (mthI pa pl) := by
  have hp' := hp
  simp only [plainXs, Bool.and_eq_true] at hp'
  refine SE.plain ⟨fun pins s σ H Q I ⟨ρ, h, J, re, rh, q⟩ => ?_⟩ (fun _ => rfl)
  dsimp only at q
  have q0 := q
  cases ev : pa.v ρ h with
  | bad => rw [ev] at q; exact False.elim q
  | err _ _ => rw [ev] at q; exact False.elim q
  | ok dx h1 =>
    cases hi : (dx.ixs h1).isSome with
    | false => rw [ev] at q; simp only [R.bind_ok, hi] at q; exact False.elim q
    | true =>
      have st := stepAt re rh ev q0
      have rest : ∀ (S : PySem.W.Frag → Hp → Addr → List V → Prop) (J1 : Jn) (H1 : Hp) (b : V), RE X.K J1 H1 ρ σ → RH X.K J1 h1 H1 → (∀ J2 h2 H2 ds, Ext J1 H1 J2 H2 → RH X.K J2 h2 H2 → dx.ixs h2 = some ds → ∃ p vs, b = .ref p ∧ S X.K H2 p vs ∧ RDs X.K J2 H2 ds vs) →
          Post X.K J1 H1 (rD X.K) (if (dx.ixs h1).isSome then (pl.l ρ h1).bind fun xs h2 => R.opt (ixD dx h2 xs) h2 else .bad) Q → tG X.K (rDs X.K) pl.l σ H1 (fun xs H2 => rIdx S X.K b xs H2 Q) := by
        intro S J1 H1 b re1 rh1 hS q1
        simp only [hi, if_true] at q1
        refine (Post.step (R1 := rDs X.K) (f := pl.l) re1 rh1 q1).mono fun xs H2 ⟨J2, h2, es2, e2, re2, rh2, rs, q2⟩ => ?_
        obtain ⟨d, hd, q3⟩ := Post.optX q2
        unfold ixD at hd
        simp only [Option.bind_eq_some_iff] at hd
        obtain ⟨ds, hds, hd⟩ := hd
        obtain ⟨z, ns, rfl, hn, hz, rfl⟩ := idx_inv hd
        obtain ⟨p, vs, rfl, hs, rr⟩ := hS J2 h2 H2 ds e2 rh2 hds
        rw [tint_rel rr hn] at hs
        obtain ⟨w, rfl, r1⟩ := one_inv rs
        cases r1
        exact ⟨p, ns, z, rfl, rfl, hs, hz, q3 _ _ _ Ext.refl rh2 (.int _)⟩
      cases hf : dx.isF with
      | true =>
        cases dx with
        | ftup xs =>
          refine (pe_fm PySem.F.slot_tuple_index rfl mt_tupIdx ha.v hl.l (base_of hx) (few_of _ _ hp hlen) hline (plain_star hp'.1 _ _) (plainXs_any _ _ hp'.2)).run pins s σ H Q I ?_
          obtain ⟨ρ', h', J', re', rh', p'⟩ := st
          refine ⟨ρ', h', J', re', rh', Post.mono p' fun b H1 ⟨J1, e1, re1, rh1, rx, q1⟩ => ?_⟩
          cases rx with
          | ft n m q c d z rr => exact ⟨⟨_, _, _, rfl, q, c, d⟩, rest SqT J1 H1 _ re1 rh1 (fun J2 h2 H2 ds e2 _ ed => ⟨_, _, rfl, .inl (.inr ⟨_, e2.keep _ _ n q⟩), by cases ed; exact rr.ext e2⟩) q1⟩
        | exc k => exact absurd hi (by simp [D.ixs])
        | exf k f d => exact absurd hi (by simp [D.ixs])
        | _ => cases hf
      | false =>
        refine (pe_bm PySem.F.plainAttrs_list PySem.F.slot_list_index rfl mt_lstIdx ha.v hl.l (base_of hx) (few_of _ _ hp hlen) hline (plain_star hp'.1 _ _) (plainXs_any _ _ hp'.2)).run pins s σ H Q I ?_
        obtain ⟨ρ', h', J', re', rh', p'⟩ := st
        refine ⟨ρ', h', J', re', rh', Post.mono p' fun b H1 ⟨J1, e1, re1, rh1, rx, q1⟩ => ?_⟩
        obtain ⟨ds, eds⟩ := Option.isSome_iff_exists.mp hi
        obtain ⟨p, vs, rfl, hq, rr⟩ := ixs_st rh1 rx hf eds
        exact ⟨.inl ⟨rfl, _, hq⟩, rest SqL J1 H1 _ re1 rh1 (fun J2 h2 H2 ds e2 rh2 ed => ixs_st rh2 (rx.ext e2) hf ed) q1⟩

/-! ### tuple(enumerate(a tuple)) -/
theorem se_tenum {ep : Pos} {cp : Pos} (o : Ok c F G X) (hc0 : c.hot = false) (hm : ("tuple" : Str) ∈ c.bs) (hg : c.glb "tuple" = true) (hm2 : ("enumerate" : Str) ∈ c.bs) (hg2 : c.glb "enumerate" = true) (hp : plainX a = true) (ha : SE X a pa) :
    SE X (.Call (.Name "tuple" np) [.Call (.Name "enumerate" ep) [a] [] cp] [] pos) (.plain fun ρ h => (pa.v ρ h).bind fun x h1 => R.opt (tenumOp x) h1) := by
  refine SE.plain ⟨fun pins s σ H Q I ⟨ρ, h, J, re, rh, q⟩ => ?_⟩ (fun _ => rfl)
  refine wpAny_Call_Name_kw (ld_blt I (glb_ok o hg).1 (o.blt _ hm) rfl (PyProof.Rows.callWith_type1 ?_ rfl rfl) (by decide) (glb_ok o hg).2)
  show wpAny _ _ (spliced [(false, eval (.Call (.Name "enumerate" ep) [a] [] cp) X.env)]) _ _ s
  refine Calls.spliced_cons ?_
  refine wpAny_Call_Name_kw (ld_blt I (glb_ok o hg2).1 (o.blt _ hm2) rfl (PyProof.Rows.callWith_type1 ?_ (plain_star hp _ _) rfl) (by decide) (glb_ok o hg2).2)
  have step : tCons (tG X.K (rD X.K) pa.v) tNil σ H (fun xs H1 => ∃ y, xs = [y] ∧ ∃ J1 h1 dx, Ext J H J1 H1 ∧ RE X.K J1 H1 ρ σ ∧ RH X.K J1 h1 H1 ∧ RD X.K J1 H1 dx y ∧ Post X.K J1 H1 (rD X.K) (R.opt (tenumOp dx) h1) Q) :=
    (Post.step (R1 := rD X.K) (f := pa.v) re rh q).mono fun b H1 z => ⟨b, rfl, z⟩
  refine thn ((pa_cons ha.v pa_nil (plain_star hp _ _)).run cp pins s σ H _ I step) fun us s1 ⟨xs, H1, I1, r1, y, ex, J1, h1, dx, e1, re1, rh1, rx, q1⟩ => ?_
  subst ex
  obtain ⟨u, rfl, ru⟩ : ∃ u, us = [u] ∧ L2.RelV y u := by
    cases r1 with | cons p t => cases t; exact ⟨_, rfl, p⟩
  cases ht : tenumOp dx with
  | none => rw [ht] at q1; exact False.elim q1
  | some d =>
    rw [ht] at q1
    unfold tenumOp at ht
    split at ht
    · rename_i ds
      split at ht
      · cases ht
        obtain ⟨a0, vs0, ey, _⟩ := rx.tup_inv
        subst ey
        cases (show u = Value.ref a0 from ru)
        refine thn (tenum_run (o.calm hc0) I1 rh1 rx fun J' H' v e2 rh2 rv => q1 J' H' v e2 rh2 rv) fun ev s2 hv => Calls.spliced_nil hv
      · cases ht
    · cases ht
/-! ### sorted(set(a list of ints)) -/
theorem sset_some {h : Hh} {x d : D} (e : ssetOp h x = some d) : ∃ ds ns, x.res h = .lst ds ∧ D.ints ds = some ns ∧ ns.length < 64 ∧ d = .lst ((srtD ns).map .int) := by
  unfold ssetOp at e
  simp only [Option.bind_eq_some_iff] at e
  obtain ⟨ns, ⟨ds, e1, e2⟩, e3⟩ := e
  split at e3
  · rename_i hz; cases e3; exact ⟨ds, ns, lstOf_inv e1, e2, hz, rfl⟩
  · cases e3
theorem fresh_at {K : PySem.W.Frag} {J J1 : Jn} {H H1 : Hp} {h1 : Hh} {p : Addr} (e1 : Ext J H J1 H1) (rh1 : RH K J1 h1 H1) (np : H1 p = none) : H p = none := by
  cases hp : H p with
  | none => rfl
  | some u =>
    exfalso
    by_cases n : p ∈ J.l
    · obtain ⟨m, hm, _⟩ := e1.pre
      obtain ⟨u', h2⟩ := rh1.inl (a := p) (by rw [hm]; exact List.mem_append_left _ n)
      rw [np] at h2; cases h2
    · have := e1.keep p u n hp; rw [np] at this; cases this
theorem se_ssetF {ep : Pos} {cp : Pos} (o : Ok c F G X) (hc0 : c.hot = false) (hm : ("sorted" : Str) ∈ c.bs) (hg : c.glb "sorted" = true) (hm2 : ("set" : Str) ∈ c.bs) (hg2 : c.glb "set" = true) (hp : plainX a = true) (ha : SE X a pa) :
    PE X (.Call (.Name "sorted" np) [.Call (.Name "set" ep) [a] [] cp] [] pos) (tF X.K fun ρ h => (pa.v ρ h).bind fun x h1 => R.opt (ssetOp h1 x) h1) := by
  have inner := pe_callTy (p := ep) (pos := cp) (PVX.cr_setL (X := X) (o.calm hc0)) (glb_ok o hg2).1 (o.blt _ hm2) rfl (pa_cons ha.v pa_nil (plain_star hp _ _)) (by decide) (glb_ok o hg2).2 (plain_star hp _ _) rfl
  refine (pe_callB (p := np) (pos := pos) (cr_sortedSet (X := X) (o.calm hc0)) (glb_ok o hg).1 (o.blt _ hm) rfl (pa_cons inner pa_nil rfl) (by decide) (glb_ok o hg).2 rfl rfl).imp fun σ H Q ⟨ρ, h, J, re, rh, q⟩ => ?_
  refine ⟨ρ, h, J, re, rh, ?_⟩
  dsimp only at q
  cases ev : pa.v ρ h with
  | bad => rw [ev] at q; exact False.elim q
  | err _ _ => rw [ev] at q; exact False.elim q
  | ok dx h1 =>
    rw [ev, R.bind_ok] at q
    intro J1 H1 b e1 rh1 rx
    cases hs : ssetOp h1 dx with
    | none => rw [hs] at q; exact False.elim q
    | some d =>
      rw [hs] at q
      obtain ⟨ds, ns, r1, r2, h64, rfl⟩ := sset_some hs
      obtain ⟨p, ws, rfl, hq, z, rr⟩ := res_inv rh1 r1 rx
      obtain rfl := ints_rel rr r2
      refine ⟨p, ns, rfl, hq, h64, fun p2 k np2 hk => ⟨p2, _, k, rfl, upd_same, by omega, fun ms p3 pw mem len np3 => ?_⟩⟩
      have em : ms = srtD ns := srtD_eq pw fun z => by rw [mem z]; exact decide_eq_true_iff
      subst em
      have rh2 := rh1.laid (o := SetO X.w p2 (fun j => decide (j ∈ ns)) k) np2
      have e2 := e1.trans rh rh1 (Ext.laid (o := SetO X.w p2 (fun j => decide (j ∈ ns)) k) np2)
      refine q (J1.hide p3) _ p3 _ ⟨rfl, e2.pre, fun a o n q => by rw [upd_ne (ne_of_none (e2.keep a o n q) np3)]; exact e2.keep a o n q⟩ ?_ (rh2.hide np3) upd_same ?_ (((rds_ints (srtD ns)).sub (Sub.hide np3)).ext (Ext.laid np3)) (fresh_at e2 rh2 np3)
      · show p3 :: J1.z = p3 :: J.z; rw [e1.z]
      · rw [List.length_map]
        rw [sizeLine_eq]; omega
theorem sset_lst {ρ : Env} {h : Hh} {d : D} {h' : Hh} (e : ((pa.v ρ h).bind fun x h1 => R.opt (ssetOp h1 x) h1) = .ok d h') : ∃ ds, d = .lst ds := by
  cases ev : pa.v ρ h with
  | bad => rw [ev] at e; cases e
  | err _ _ => rw [ev] at e; cases e
  | ok x h1 =>
    rw [ev, R.bind_ok] at e
    cases hs : ssetOp h1 x with
    | none => rw [hs] at e; cases e
    | some d2 =>
      rw [hs] at e
      cases e
      obtain ⟨ds, ns, r1, r2, h64, rfl⟩ := sset_some hs
      exact ⟨_, rfl⟩
theorem se_sset {ep : Pos} {cp : Pos} (o : Ok c F G X) (hc0 : c.hot = false) (hm : ("sorted" : Str) ∈ c.bs) (hg : c.glb "sorted" = true) (hm2 : ("set" : Str) ∈ c.bs) (hg2 : c.glb "set" = true) (hp : plainX a = true) (ha : SE X a pa) :
    SE X (.Call (.Name "sorted" np) [.Call (.Name "set" ep) [a] [] cp] [] pos) (.plain fun ρ h => (pa.v ρ h).bind fun x h1 => R.opt (ssetOp h1 x) h1) :=
  SE.plain (tF_val (se_ssetF o hc0 hm hg hm2 hg2 hp ha) fun _ _ _ _ e => sset_lst e) (fun _ => rfl)
end
end
end PV
end

section
set_option maxRecDepth 100000
/-! PvV: enumerate of a tuple in a loop, dict comprehensions, tuple(range(n)). -/
namespace PV
open L2 PySem PySem.Spec PyProof.Rows
/-! ### enumerate(a tuple) -/
/-- how the enumerating object e and the walk w over the tuple t stand ahead of place i -/
structure EnS (t e w : Addr) (i : Nat) (h : Heap) : Prop where
  en : ∃ old, IsEnum h e w (i : Int) old
  wk : h.IsTupleIter w t i
  ne : e ≠ w
section
variable {t e w : Addr} {i : Nat} {h g : Heap} {items : Array Value}
theorem two_mem {c : Addr} (hc : c ∈ [e, w]) : c = e ∨ c = w := (List.mem_cons.mp hc).imp_right List.mem_singleton.mp
theorem EnS.objs (x : EnS t e w i h) {c : Addr} (hc : c ∈ [e, w]) : ∃ o, h.get? c = some o ∧ ∀ v, o.data ≠ .cell v := by
  rcases two_mem hc with rfl | rfl
  · obtain ⟨_, q⟩ := x.en
    exact ⟨_, q, nofun⟩
  · obtain ⟨o, q, _, d⟩ := x.wk
    exact ⟨o, q, by rw [d]; exact nofun⟩
theorem EnS.lt (x : EnS t e w i h) {c : Addr} (hc : c ∈ [e, w]) : c < h.objs.size :=
  let ⟨_, q, _⟩ := x.objs hc; Heap.lt_size q
theorem EnS.stay (x : EnS t e w i h) (k : ∀ c ∈ [e, w], ∀ o, h.get? c = some o → g.get? c = some o) : EnS t e w i g :=
  ⟨x.en.imp fun _ q => k e (List.mem_cons_self ..) _ q, x.wk.at fun o q => k w (List.mem_cons_of_mem _ (List.mem_singleton.mpr rfl)) o q, x.ne⟩
/-- the tuple is none of the two: it is of another class -/
theorem EnS.other (x : EnS t e w i h) (p : h.IsTuple t items) {c : Addr} (hc : c ∈ [e, w]) : t ≠ c := by
  obtain ⟨o, ho, cl, _⟩ := p
  rintro rfl
  rcases two_mem hc with rfl | rfl
  · obtain ⟨_, q⟩ := x.en
    have q := Option.some.inj ((show h.get? t = some _ from q).symm.trans ho)
    rw [← q] at cl
    exact absurd cl (by simp)
  · obtain ⟨o2, q, cl2, _⟩ := x.wk
    cases Option.some.inj (q.symm.trans ho)
    rw [cl2] at cl
    exact absurd cl (by simp)
theorem EnS.eMem : e ∈ [e, w] := List.mem_cons_self ..
theorem EnS.wMem : w ∈ [e, w] := List.mem_cons_of_mem _ (List.mem_singleton.mpr rfl)
end
/-- the items of the tuple at t, in new pairs with their places -/
def IteT (K : PySem.W.Frag) (t : Addr) : It where
  go i H := ∃ (vs : List V) (y : V), SqT K H t vs ∧ vs[i]? = some y
  yld i H v H' := ∃ p y, v = .ref p ∧ H p = none ∧ H' = upd H p (.tup [.int (i : Nat), y]) ∧ ∀ vs, SqT K H t vs → vs[i]? = some y
  stop i H := ∃ vs : List V, SqT K H t vs ∧ vs.length = i
section
variable {X : Cx} {pins : List (Addr × Obj)} {σ : L2.St} {H : Hp} {s : Shared} {E : Value → Shared → Prop} {t e w : Addr} {i : Nat}
/-- one more pair -/
theorem enT_item {elts : List Expr} {kk : Nat} {tp : Pos} (hc : X.calm = true) (I : L2.Inv X pins σ H s) (hf : ∀ c ∈ [e, w], FpOk X pins H c) (x : EnS t e w i s.heap) {vs : List V} {y : V} (hq : SqT X.K H t vs) (hy : vs[i]? = some y) :
    wpAny (model X.prog X.w) X.A (pyNext (.ref e)) (fun r s1 => ∃ u, r = some u ∧
      wpAny (model X.prog X.w) X.A (letOwnedTupleGo (.Tuple elts kk tp) (.ref e) u) (fun _ s2 => ∃ v H', L2.Inv X pins σ H' s2 ∧ L2.RelV v u ∧ (IteT X.K t).yld i H v H' ∧ EnS t e w (i + 1) s2.heap ∧ ∀ c ∈ [e, w], H' c = none) E s1) E s := by
  obtain ⟨us, ru, tp1, _⟩ := I.tuple hq
  obtain ⟨u, hu, ry⟩ := ru.get hy
  obtain ⟨old, en⟩ := x.en
  have size : i < us.toArray.size := by rw [List.size_toArray]; exact (List.getElem?_eq_some_iff.mp hu).1
  have nw := x.other tp1 EnS.wMem
  have fresh : ∀ c ∈ [e, w], c ≠ s.heap.objs.size := fun c hc => Nat.ne_of_lt (x.lt hc)
  refine wpAny_pyNext_enum_itemD (Draws.tuple (A := X.A.in1) (I.ok.hd hc) w t nw us.toArray) en ⟨x.wk, tp1⟩ size x.ne (fun hm => ?_) fun u0 g tk pu out next laid _ keep => ?_
  · rcases two_mem (e := w) (w := t) hm with z | z
    · exact x.ne z
    · exact x.other tp1 EnS.eMem z.symm
  have eu : u0 = u := by
    have pu : us.toArray[i]? = some u0 := pu
    rw [List.getElem?_toArray, hu] at pu
    exact (Option.some.inj pu).symm
  subst eu
  refine ⟨_, rfl, wpAny_letOwnedTupleGo_enum (s := { s with heap := g, toks := tk + 1 }) out fun g2 out2 same => ?_⟩
  have laid2 := (same.2 s.heap.objs.size (fresh e EnS.eMem).symm).trans laid
  have pair : ObjOk X.prog X.w (upd H s.heap.objs.size (.tup [.int (i : Nat), y])) g2 s.heap.objs.size (.tup [.int (i : Nat), y]) :=
    ⟨show 2 ≤ sizeLine by decide, _, .cons ⟨tk, rfl⟩ (.cons ry .nil), _, laid2, rfl, _, rfl⟩
  have kept : ∀ c o, c ∉ [e, w] → s.heap.get? c = some o → g2.get? c = some o := fun c o nc q => by
    have ne : c ≠ e := fun z => nc (z ▸ EnS.eMem)
    have nw : c ≠ w := fun z => nc (z ▸ EnS.wMem)
    exact (same.2 c ne).trans (keep c o ne nw q)
  have J := I.turnedNew (t' := tk + 1) kept hf (Nat.le_refl _) pair
  refine ⟨.ref s.heap.objs.size, _, J, rfl, ⟨_, y, rfl, I.hok.fresh (Nat.le_refl _), rfl, fun ws hw => by rw [I.tuple_inj hw hq]; exact hy⟩, ⟨⟨u0, ?_⟩, next.1.at fun o q => (same.2 w x.ne.symm).trans q, x.ne⟩, fun c hc => ?_⟩
  · have step : (i : Int) + 1 = ((i + 1 : Nat) : Int) := by omega
    exact step ▸ out2
  · rw [upd_ne (fresh c hc)]; exact (hf c hc).1
/-- none is left -/
theorem enT_done (hc : X.calm = true) (I : L2.Inv X pins σ H s) (hf : ∀ c ∈ [e, w], FpOk X pins H c) (x : EnS t e w i s.heap) {vs : List V} (hq : SqT X.K H t vs) (hi : vs.length = i) :
    wpAny (model X.prog X.w) X.A (pyNext (.ref e)) (fun r s1 => r = none ∧ L2.Inv X pins σ H s1) E s := by
  obtain ⟨us, ru, tp1, _⟩ := I.tuple hq
  obtain ⟨old, en⟩ := x.en
  have size : i = us.toArray.size := by rw [List.size_toArray, ← ru.length, hi]
  have wk := x.wk
  rw [size] at wk
  obtain ⟨f0, f1, _, f3, f4, f5⟩ := hf w EnS.wMem
  exact wpAny_pyNext_enum_endD (Draws.tuple (A := X.A.in1) (I.ok.hd hc) w t (x.other tp1 EnS.wMem) us.toArray) en ⟨wk, tp1⟩ fun g gone => ⟨rfl, I.turned (t' := s.toks) (fun c o nc q => gone c o nc q) f0 f1 f3 f4 f5⟩
end
theorem turn_enT {P : Program} {wd : World} {K : PySem.W.Frag} {elts : List Expr} {kk : Nat} {tp : Pos} (t e w : Addr) : Turn P wd K (.Tuple elts kk tp) (IteT K t) [e, w] e (EnS t e w) where
  mem := EnS.eMem
  obj _ _ x _ hc := x.objs hc
  keep _ _ _ x k := x.stay k
  item X hP hw hK hc i pins s σ H E I hf x hg := by
    obtain ⟨vs, y, hq, hy⟩ := hg
    subst hP; subst hw; subst hK
    exact enT_item hc I hf x hq hy
  done X hP hw hK hc i pins s σ H E I hf x hg := by
    obtain ⟨vs, hq, hi⟩ := hg
    subst hP; subst hw; subst hK
    exact enT_done hc I hf x hq hi
  self _ _ _ _ _ x q := x.en.elim fun _ en => wpAny_pyIter_enum en q
def iEnumT (K : PySem.W.Frag) (ta : TA) : TI := fun σ H R => ta σ H fun vs H1 => ∃ t ys, vs = [.ref t] ∧ SqT K H1 t ys ∧ R (IteT K t) H1
theorem pi_enumT {X : Cx} {a : Expr} {ta : TA} {p pos tp : Pos} {elts : List Expr} {kk : Nat} (hg : Gl X "enumerate") (hm : X.mg "enumerate" = none) (ha : PA X [a] ta) (hs : starEach [a] X.env = [(false, eval a X.env)] := by rfl) :
    PI X (.Tuple elts kk tp) (.Call (.Name "enumerate" p) [a] [] pos) (iEnumT X.K ta) where
  run pins s σ H R I q := by
    have arg := ha.run pos pins s σ H _ I q
    refine Call_ (ld_blt I hg hm boot_enumerate (PyProof.Rows.callWith_type1 (thn arg fun us s1 hu => ?_) hs rfl))
    obtain ⟨vs, H1, I1, rel, t, ys, ev, hq, r⟩ := hu
    subst ev
    obtain ⟨u, rfl, ru⟩ : ∃ u, us = [u] ∧ L2.RelV (.ref t) u := by
      cases rel with | cons p q => cases q; exact ⟨_, rfl, p⟩
    cases (show u = Value.ref t from ru)
    obtain ⟨_, _, tp1, _⟩ := I1.tuple hq
    refine PVQ.call_enumT tp1 fun g en wk size keep => wpAny_pyIter_enum en ?_
    have I2 : L2.Inv X pins σ H1 { s1 with heap := g } := I1.kept (t' := s1.toks) keep
    refine ⟨s1.heap.objs.size + 1, [s1.heap.objs.size + 1, s1.heap.objs.size], _, _, H1, rfl, I2, turn_enT t _ _, ⟨⟨.none, en⟩, wk, Nat.succ_ne_self _⟩, fun c hc => ?_, r⟩
    have big : s1.heap.objs.size ≤ c := (two_mem hc).elim (fun z => z ▸ Nat.le_succ _) fun z => z ▸ Nat.le_refl _
    exact I1.fpOk big (I1.hok.fresh big)
end PV
namespace PV
open L2 PySem PySem.Spec PyProof.Rows
section
variable {X : Cx} {e x a b tg : Expr} {p pa pb pc : P} {pos : Pos} {K : PySem.W.Frag} {J : Jn} {H : Hp} {h : Hh}
/-! ### enumerate as a source -/
theorem enumD_get : ∀ {xs : List D} {n i : Nat} {d : D}, (enumD n xs)[i]? = some d → ∃ x, xs[i]? = some x ∧ d = .tup [.int ((n + i : Nat) : Int), x]
  | [], _, _, _, e => by simp [enumD] at e
  | x :: xs, n, 0, d, e => by simp [enumD] at e; exact ⟨x, rfl, by rw [← e]; rfl⟩
  | x :: xs, n, i + 1, d, e => by
    have e : (enumD (n + 1) xs)[i]? = some d := by simpa [enumD] using e
    obtain ⟨y, h1, h2⟩ := enumD_get e
    refine ⟨y, by simpa using h1, ?_⟩
    rw [h2]
    have : n + 1 + i = n + (i + 1) := by omega
    rw [this]
theorem enumD_len : ∀ {xs : List D} {n : Nat}, (enumD n xs).length = xs.length
  | [], _ => rfl
  | x :: xs, n => by show (enumD (n + 1) xs).length + 1 = _; rw [enumD_len]; rfl
theorem ite_ok {a : Addr} {ds : List D} {vs : List V} (st : ∀ {J2 : Jn} {H2 : Hp}, Sub J H J2 H2 → SqL K H2 a vs) (r : RDs K J H ds vs) : ItOk K J H (Ite K a) ⟨enumD 0 ds, none⟩ := by
  refine ⟨fun {J2 h2 H2 i d} s rh _ hd => ?_, fun {J2 h2 H2} s rh _ => ⟨vs, st s, by show vs.length ≤ (enumD 0 ds).length; rw [enumD_len, r.length]; exact Nat.le_refl _⟩⟩
  obtain ⟨y, hy, rfl⟩ := enumD_get hd
  obtain ⟨v, hv, rv⟩ := r.get hy
  refine ⟨⟨vs, v, st s, hv⟩, fun x H3 ⟨T, x', e1, nT, e2, f⟩ => ?_⟩
  have := f vs (st s)
  rw [hv] at this; cases this
  subst e1 e2
  refine ⟨Ext.laid nT, rh.laid nT, ?_⟩
  rw [Nat.zero_add]
  exact RD.newTup rh nT (.cons (.int _) (.cons (rv.sub s) .nil)) two_ok
theorem iteT_ok {a : Addr} {ds : List D} {vs : List V} (st : ∀ {J2 : Jn} {H2 : Hp}, Sub J H J2 H2 → SqT K H2 a vs) (r : RDs K J H ds vs) : ItOk K J H (IteT K a) ⟨enumD 0 ds, none⟩ := by
  refine ⟨fun {J2 h2 H2 i d} s rh _ hd => ?_, fun {J2 h2 H2} s rh _ => ⟨vs, st s, by show vs.length = (enumD 0 ds).length; rw [enumD_len, r.length]⟩⟩
  obtain ⟨y, hy, rfl⟩ := enumD_get hd
  obtain ⟨v, hv, rv⟩ := r.get hy
  refine ⟨⟨vs, v, st s, hv⟩, fun x H3 ⟨T, x', e1, nT, e2, f⟩ => ?_⟩
  have := f vs (st s)
  rw [hv] at this; cases this
  subst e1 e2
  refine ⟨Ext.laid nT, rh.laid nT, ?_⟩
  rw [Nat.zero_add]
  exact RD.newTup rh nT (.cons (.int _) (.cons (rv.sub s) .nil)) two_ok
theorem pi_enumS {pp tp : Pos} {elts : List Expr} {kk : Nat} (hg : Gl X "enumerate") (hm : X.mg "enumerate" = none) (hp : plainX a = true) (ha : SE X a pa) :
    PI X (.Tuple elts kk tp) (.Call (.Name "enumerate" pp) [a] [] pos) (tI X.K fun ρ h => (pa.v ρ h).bind fun x h1 => R.opt (enumSrc x) h1) := by
  have hs : starEach [a] X.env = [(false, eval a X.env)] := plain_star hp [] _
  refine ⟨fun pins s σ H Rr I ⟨ρ, h, J, re, rh, q⟩ => ?_⟩
  dsimp only at q
  cases ev : pa.v ρ h with
  | bad => rw [ev] at q; exact False.elim q
  | err _ _ => rw [ev] at q; exact False.elim q
  | ok d h1 =>
    rw [ev, R.bind_ok] at q
    cases es : enumSrc d with
    | none => rw [es] at q; exact False.elim q
    | some src =>
      rw [es] at q
      have q : ∀ J' H' it, Ext J H J' H' → RH X.K J' h1 H' → ItOk X.K J' H' it src → Rr it H' := q
      have one : ∀ {P : V → Hp → Prop}, (∀ J' H' v, Ext J H J' H' → RH X.K J' h1 H' → RD X.K J' H' d v → P v H') → tCons (tG X.K (rD X.K) pa.v) tNil σ H (fun xs H1 => ∃ y, xs = [y] ∧ P y H1) := fun {P} f =>
        (⟨ρ, h, J, re, rh, by rw [ev]; exact fun J1 H1 b e rh1 rl => ⟨b, rfl, f J1 H1 b e rh1 rl⟩⟩ : tG X.K (rD X.K) pa.v σ H (fun b H1 => ∃ y, [b] = [y] ∧ P y H1))
      have lists : (∃ ds, (d = .lst ds ∨ d = .fz ds) ∧ src = ⟨enumD 0 ds, none⟩) → wpAny (model X.prog X.w) X.A (eval (.Call (.Name "enumerate" pp) [a] [] pos) X.env) (fun v s1 => wpAny (model X.prog X.w) X.A (pyIter v) (PIE X pins σ (.Tuple elts kk tp) Rr) X.xe s1) X.xe s := by
        rintro ⟨ds, hd, rfl⟩
        refine (pi_enum hg hm (pa_cons ha.v pa_nil hs) hs).run pins s σ H Rr I ?_
        have := one (P := fun y H1 => ∃ a xs, y = V.ref a ∧ SqL X.K H1 a xs ∧ Rr (Ite X.K a) H1) fun J' H' v e1 rh' rv => by
          obtain ⟨p, vs, rfl, hq, z, rr⟩ := lst_st hd rv
          exact ⟨p, vs, rfl, hq Sub.refl, q J' H' _ e1 rh' (ite_ok hq rr)⟩
        refine tG.mono this fun b H1 ⟨y, ey, a0, xs, e1, e2, e3⟩ => ?_
        cases ey
        exact ⟨a0, xs, by rw [e1], e2, e3⟩
      cases d with
      | lst ds => cases es; exact lists ⟨ds, .inl rfl, rfl⟩
      | fz ds => cases es; exact lists ⟨ds, .inr rfl, rfl⟩
      | tup ds =>
        cases es
        refine (pi_enumT hg hm (pa_cons ha.v pa_nil hs) hs).run pins s σ H Rr I ?_
        have := one (P := fun y H1 => ∃ a xs, y = V.ref a ∧ SqT X.K H1 a xs ∧ Rr (IteT X.K a) H1) fun J' H' v e1 rh' rv => by
          obtain ⟨p, vs, rfl, hq, z, rr⟩ := tup_st rv
          exact ⟨p, vs, rfl, hq Sub.refl, q J' H' _ e1 rh' (iteT_ok hq rr)⟩
        refine tG.mono this fun b H1 ⟨y, ey, a0, xs, e1, e2, e3⟩ => ?_
        cases ey
        exact ⟨a0, xs, by rw [e1], e2, e3⟩
      | _ => cases es

/-! ### dict comprehensions -/
theorem valP_put {kvs : List (Key × D)} {kws : List (Key × V)} {k : Key} {d : D} {v : V} (r : Paired (fun p q => p.1 = q.1 ∧ RD K J H p.2 q.2) kvs kws) (rv : RD K J H d v) :
    Paired (fun p q => p.1 = q.1 ∧ RD K J H p.2 q.2) (putD kvs k d) (putK kws k v) := by
  have ha : ∀ {kvs : List (Key × D)} {kws : List (Key × V)}, Paired (fun p q => p.1 = q.1 ∧ RD K J H p.2 q.2) kvs kws → (kvs.any fun kv => decide (kv.1 = k)) = kws.any fun kv => decide (kv.1 = k) := by
    intro kvs kws r
    induction r with
    | nil => rfl
    | cons x t ih => simp only [List.any_cons, ih, x.1]
  have hm : ∀ {kvs : List (Key × D)} {kws : List (Key × V)}, Paired (fun p q => p.1 = q.1 ∧ RD K J H p.2 q.2) kvs kws → Paired (fun p q => p.1 = q.1 ∧ RD K J H p.2 q.2) (kvs.map fun kv => if kv.1 = k then (kv.1, d) else kv) (kws.map fun kv => if kv.1 = k then (kv.1, v) else kv) := by
    intro kvs kws r
    induction r with
    | nil => exact .nil
    | @cons p q ps qs x t ih =>
      refine .cons ?_ ih
      dsimp only
      by_cases hk : p.1 = k
      · rw [if_pos hk, if_pos (x.1 ▸ hk)]; exact ⟨x.1, rv⟩
      · rw [if_neg hk, if_neg (x.1 ▸ hk)]; exact x
  have hap : ∀ {kvs : List (Key × D)} {kws : List (Key × V)}, Paired (fun p q => p.1 = q.1 ∧ RD K J H p.2 q.2) kvs kws → Paired (fun p q => p.1 = q.1 ∧ RD K J H p.2 q.2) (kvs ++ [(k, d)]) (kws ++ [(k, v)]) := by
    intro kvs kws r
    induction r with
    | nil => exact .cons ⟨rfl, rv⟩ .nil
    | cons x t ih => exact .cons x ih
  unfold putD putK
  rw [ha r]
  split
  · exact hm r
  · exact hap r
theorem putK_le {kws : List (Key × V)} {k : Key} {v : V} : (putK kws k v).length ≤ kws.length + 1 := by
  unfold putK
  split
  · rw [List.length_map]; omega
  · rw [List.length_append]; exact Nat.le_refl _
theorem dc_read {t : Tg} {f : Env → Hh → R Src} {pt pk pv : P} {σ : L2.St} {Q : VK} (hq : tG K (rD K) (fun ρ h => (f ρ h).bind fun s h1 => if sizeOk s.items.length then (dcLoop s.good (dcTurn t pt pk pv ρ) s.items [] h1).bind newDct else .bad) σ H Q) :
    tDc (tI K f) (gD K t t.slots) (tG K rB pt.t) (tG K (rD K) pk.v) (tG K (rD K) pv.v) t.slots σ H Q := by
  obtain ⟨ρ, h, J, re, rh, q⟩ := hq
  refine ⟨ρ, h, J, re, rh, ?_⟩
  dsimp only at q
  cases ev : f ρ h with
  | bad => rw [ev] at q; exact q
  | err _ _ => rw [ev] at q; exact q
  | ok src h1 =>
    rw [ev, R.bind_ok] at q
    cases hsi : sizeOk src.items.length with
    | false => rw [hsi] at q; exact False.elim q
    | true =>
    rw [hsi] at q
    simp only [if_true] at q
    intro J1 H1 it e1 rh1 itok D nD
    have nDH : H D = none := fresh_at e1 rh1 nD
    let W : Nat → Nat → Hp → Prop := fun i m H2 => m = src.items.length - i ∧ i ≤ src.items.length ∧ ∃ J2 h2 acc kws, J2.z = D :: J.z ∧ Ext J H ⟨J2.l, J.z⟩ H2 ∧ Sub J1 H1 J2 H2 ∧ RH K J2 h2 H2 ∧ H2 D = some (.dK kws) ∧ kws.length ≤ i ∧ kws.length ≤ sizeLine ∧ Paired (fun p q => p.1 = q.1 ∧ RD K J2 H2 p.2 q.2) acc kws ∧
      (match dcLoop src.good (dcTurn t pt pk pv ρ) (src.items.drop i) acc h2 with
        | .ok kvs h' => ∀ J' H' v, Ext J H J' H' → RH K J' (h' ++ [.dct kvs]) H' → RD K J' H' (.ref h'.length) v → Q v H'
        | _ => False)
    refine ⟨W, ⟨src.items.length, by simp, Nat.zero_le _, J1.hide D, h1, [], [], by rw [← e1.z], ?_, (Sub.hide nD).trans (Ext.laid nD).sub, rh1.hide nD, upd_same, Nat.zero_le _, Nat.zero_le _, .nil, ?_⟩, fun i m H2 hW => ?_⟩
    · exact ⟨rfl, e1.pre, fun a o n q => by rw [upd_ne (ne_of_none (e1.keep a o n q) nD)]; exact e1.keep a o n q⟩
    · rw [List.drop_zero]
      cases ed : dcLoop src.good (dcTurn t pt pk pv ρ) src.items [] h1 with
      | bad => rw [ed] at q; exact q
      | err _ _ => rw [ed] at q; exact q
      | ok kvs h' => rw [ed] at q; exact q
    · obtain ⟨rfl, hi', J2, h2, acc, kws, ez, e2, s2, rh2, hD, hv, hsz, rs, q⟩ := hW
      cases hd : src.items[i]? with
      | none =>
        have hlen : i = src.items.length := by have := List.getElem?_eq_none_iff.mp hd; omega
        subst hlen
        rw [List.drop_eq_nil_of_le (Nat.le_refl _)] at q
        unfold dcLoop at q
        split at q
        · rename_i kvs h' heq
          split at heq
          · rename_i hgood
            cases heq
            refine .inl ⟨itok.stop s2 rh2 hgood, ?_⟩
            obtain ⟨l2, z2⟩ := J2
            have ez : z2 = D :: J.z := ez
            subst ez
            have rh3 : RH K (Jn.own ⟨l2, J.z⟩ D) (h2 ++ [.dct acc]) H2 := rh2.own (J := ⟨l2, J.z⟩) (fun z => rh.notz nDH z) hD (.dct hsz rs)
            refine q _ H2 _ (Ext.own (J' := ⟨l2, J.z⟩) nDH e2) rh3 (.ref ?_)
            show (l2 ++ [D])[h2.length]? = some D
            have hl : l2.length = h2.length := rh2.len
            rw [← hl, List.getElem?_append_right (Nat.le_refl _)]; simp
          · cases heq
        · exact False.elim q
      | some d =>
        have hlt : i < src.items.length := (List.getElem?_eq_some_iff.mp hd).1
        rw [List.drop_eq_getElem_cons hlt] at q
        have hde : src.items[i] = d := by rw [List.getElem?_eq_getElem hlt] at hd; exact Option.some.inj hd
        rw [hde] at q
        unfold dcLoop at q
        cases hgood : src.good h2 with
        | false => rw [hgood] at q; exact False.elim q
        | true =>
          rw [hgood] at q
          simp only [if_true] at q
          obtain ⟨g1, g2⟩ := itok.go s2 rh2 hgood hd
          refine .inr ⟨g1, fun H' => ∃ m', m' < src.items.length - i ∧ W (i + 1) m' H', fun H' z => z, fun xv H3 y3 => ?_⟩
          obtain ⟨e3, rh3, rd3⟩ := g2 xv H3 y3
          have hD3 : H3 D = some (.dK kws) := e3.keep D _ (rh2.apart D (by rw [ez]; exact List.mem_cons_self)) hD
          cases ht2 : t.put d ρ with
          | none => simp only [dcTurn, ht2] at q
          | some ρ' =>
            simp only [dcTurn, ht2] at q
            have re3 : RE K J2 H3 ρ σ := (re.ext e1 |> Sub.re s2).ext e3
            have sub3 : Sub J1 H1 J2 H3 := s2.trans e3.sub
            have ext3 : Ext J H ⟨J2.l, J.z⟩ H3 := ⟨rfl, e2.pre, fun a o n q => e3.keep a o (e2.notin n q) (e2.keep a o n q)⟩
            refine ⟨_, ρ', h2, J2, d, re3.wipe _, rh3, rd3, by rw [put_wipe]; exact ht2, fun σ2 re4 hk hl => ⟨wipe_same hk hl, ?_⟩⟩
            have nx : ∀ (J5 : Jn) (h5 : Hh) (H5 : Hp), Ext J2 H3 J5 H5 → RH K J5 h5 H5 → (∀ u, Ext J H ⟨J5.l, J.z⟩ (upd H5 D u)) ∧ Sub J1 H1 J5 H5 := fun J5 h5 H5 e5 rh5 => by
              refine ⟨fun u => ⟨rfl, ?_, fun a o n q => ?_⟩, sub3.trans e5.sub⟩
              · obtain ⟨m1, hm1, f1⟩ := ext3.pre
                obtain ⟨m2, hm2, f2⟩ := e5.pre
                have hm1 : J2.l = J.l ++ m1 := hm1
                refine ⟨m1 ++ m2, by show J5.l = _; rw [hm2, hm1, List.append_assoc], fun a ha => ?_⟩
                rcases List.mem_append.mp ha with z | z
                · exact f1 a z
                · cases hp : H a with
                  | none => rfl
                  | some w =>
                    exfalso
                    by_cases n : a ∈ J.l
                    · obtain ⟨w', h2'⟩ := rh3.inl (a := a) (by rw [hm1]; exact List.mem_append_left _ n)
                      rw [f2 a z] at h2'; cases h2'
                    · have := ext3.keep a w n hp; rw [f2 a z] at this; cases this
              · have hne : a ≠ D := by rintro rfl; rw [nDH] at q; cases q
                rw [upd_ne hne]
                exact e5.keep a o (ext3.notin n q) (ext3.keep a o n q)
            refine ⟨ρ', h2, J2, re4, rh3, ?_⟩
            cases et : pt.t ρ' h2 with
            | bad => rw [et] at q; exact False.elim q
            | err _ _ => rw [et] at q; exact False.elim q
            | ok okb h3 =>
              rw [et, R.bind_ok] at q
              intro J4 H4 bb e4 rh4 hbb
              have hbb : okb = bb := hbb
              subst hbb
              have hD4 : H4 D = some (.dK kws) := e4.keep D _ (rh3.apart D (by rw [ez]; exact List.mem_cons_self)) hD3
              have pext : ∀ {J5 : Jn} {H5 : Hp}, Ext J2 H3 J5 H5 → Paired (fun p q => p.1 = q.1 ∧ RD K J5 H5 p.2 q.2) acc kws := fun {J5 H5} e5 => Paired.mapP rs fun p q x => ⟨x.1, (x.2.ext e3).ext e5⟩
              cases okb with
              | false =>
                simp only [Bool.false_eq_true, if_false] at q ⊢
                obtain ⟨n1, n2⟩ := nx J4 h3 H4 e4 rh4
                refine ⟨_, by omega, rfl, hlt, J4, h3, acc, kws, by rw [e4.z, ez], ?_, n2, rh4, hD4, by omega, hsz, pext e4, q⟩
                have := n1 (.dK kws)
                have hu : upd H4 D (.dK kws) = H4 := by funext a; unfold upd; split <;> simp_all
                rwa [hu] at this
              | true =>
                simp only [if_true] at q ⊢
                refine ⟨ρ', h3, J4, re4.ext e4, rh4, ?_⟩
                cases ek : pk.v ρ' h3 with
                | bad => rw [ek] at q; exact False.elim q
                | err _ _ => rw [ek] at q; exact False.elim q
                | ok y h4 =>
                  rw [ek] at q
                  simp only [R.bind_ok] at q
                  intro J5 H5 yv e5 rh5 ry
                  refine ⟨ρ', h4, J5, (re4.ext e4).ext e5, rh5, ?_⟩
                  cases ee : pv.v ρ' h4 with
                  | bad => rw [ee] at q; exact False.elim q
                  | err _ _ => rw [ee] at q; exact False.elim q
                  | ok z h5 =>
                    rw [ee] at q
                    simp only [R.bind_ok, dcEnd] at q
                    intro J6 H6 zv e6 rh6 rz
                    cases hk : y.key with
                    | none => simp only [hk] at q
                    | some k =>
                      simp only [hk] at q
                      have hz4 : D ∈ J4.z := by rw [e4.z, ez]; exact List.mem_cons_self
                      have hz5 : D ∈ J5.z := by rw [e5.z]; exact hz4
                      have hz6 : D ∈ J6.z := by rw [e6.z]; exact hz5
                      have hD5 : H5 D = some (.dK kws) := e5.keep D _ (rh4.apart D hz4) hD4
                      have hD6 : H6 D = some (.dK kws) := e6.keep D _ (rh5.apart D hz5) hD5
                      have e46 : Ext J2 H3 J6 H6 := (e4.trans rh3 rh4 e5).trans rh3 rh5 e6
                      obtain ⟨n1, n2⟩ := nx J6 h5 H6 e46 rh6
                      have hlen : kws.length < sizeLine := by have := size_of hsi; omega
                      refine ⟨kws, k, key_inv hk ry, hD6, hlen, _, by omega, rfl, hlt, J6, h5, putD acc k z, putK kws k zv, by rw [e6.z, e5.z, e4.z, ez], n1 _, n2.trans (Sub.writeZ hz6), rh6.writeZ hz6, upd_same, ?_, ?_, ?_, q⟩
                      · have := putK_le (kws := kws) (k := k) (v := zv); omega
                      · have := putK_le (kws := kws) (k := k) (v := zv); omega
                      · exact Paired.mapP (valP_put (pext e46) rz) fun p q x => ⟨x.1, x.2.sub (Sub.writeZ hz6)⟩
theorem se_dcl {kx vx iter : Expr} {ifs : List Expr} {scope : Scope} {own : List (Str × Nat)} {t : Tg} {f : Env → Hh → R Src} {pt pk pv : P} (hc : X.calm = true) (hN : X.N.Nodup) (hi : PI X tg iter (tI X.K f)) (ok : BlkOk X.N X.env.scope scope own) (hown : own.map (·.2) = t.slots)
    (hg : ∀ (s : Shared) (H : Hp) (C : Addr) (cl : List (Str × Addr)) (fp : List Addr), ST (X.blk s H scope (compEnvC scope cl C X.env) fp) tg t t.slots)
    (ht : ∀ (s : Shared) (H : Hp) (C : Addr) (cl : List (Str × Addr)) (fp : List Addr), PTs (X.blk s H scope (compEnvC scope cl C X.env) fp) ifs (tG X.K rB pt.t))
    (hk : ∀ (s : Shared) (H : Hp) (C : Addr) (cl : List (Str × Addr)) (fp : List Addr), PE (X.blk s H scope (compEnvC scope cl C X.env) fp) kx (tG X.K (rD X.K) pk.v))
    (he : ∀ (s : Shared) (H : Hp) (C : Addr) (cl : List (Str × Addr)) (fp : List Addr), PE (X.blk s H scope (compEnvC scope cl C X.env) fp) vx (tG X.K (rD X.K) pv.v)) (hs : ∀ x, foldedSetIterable iter X.env x = pure x) :
    SE X (.DictComp kx vx [⟨tg, iter, ifs, 0⟩] scope pos) (.plain fun ρ h => (f ρ h).bind fun s h1 => if sizeOk s.items.length then (dcLoop s.good (dcTurn t pt pk pv ρ) s.items [] h1).bind newDct else .bad) := by
  refine SE.plain ((pe_dc (g := gD X.K t t.slots) (tt := tG X.K rB pt.t) (tk := tG X.K (rD X.K) pk.v) (tv := tG X.K (rD X.K) pv.v) hc hN hi ok (fun s H C cl fp => (hg s H C cl fp).run) ht hk he hs).imp fun σ H Q q => ?_) (fun _ => rfl)
  rw [hown]
  exact dc_read q

/-! ### tuple(range(n)) -/
theorem rgV_eq {n : Int} : RDs K J H (rngD 0 n) (rgV 0 n) := by
  unfold rngD rgV
  generalize List.range (n - 0).toNat = l
  induction l with
  | nil => exact .nil
  | cons i l ih => exact .cons (.int _) ih
theorem se_trng {c : Cs} {F : Fns} {G : List D} {np ep cp : Pos} (o : Ok c F G X) (hc0 : c.hot = false) (hm : ("tuple" : Str) ∈ c.bs) (hg : c.glb "tuple" = true) (hm2 : ("range" : Str) ∈ c.bs) (hg2 : c.glb "range" = true) (hp : plainX a = true) (ha : SE X a pa) :
    SE X (.Call (.Name "tuple" np) [.Call (.Name "range" ep) [a] [] cp] [] pos) (.plain fun ρ h => (pa.v ρ h).bind fun x h1 => R.opt (trngOp x) h1) := by
  refine SE.plain ((pe_tupRg (o.calm hc0) (glb_ok o hg).1 (o.blt _ hm) (prg_1 (glb_ok o hg2).1 (o.blt _ hm2) ha.v (plain_star hp _ _)) rfl).imp fun σ H Q ⟨ρ, h, J, re, rh, q⟩ => ?_) (fun _ => rfl)
  refine (Post.step (R1 := rD X.K) (f := pa.v) re rh q).mono fun x H1 ⟨J1, h1, dx, e1, re1, rh1, rx, q1⟩ => ?_
  obtain ⟨d, hd, q2⟩ := Post.optX q1
  unfold trngOp at hd
  split at hd
  · rename_i n
    split at hd
    · rename_i hz
      cases hd
      refine ⟨n, rx.int_inv, RgOk.of_le (by omega) (by omega) (by omega) (by omega), fun p np => ?_⟩
      refine q2 _ _ _ (Ext.laid np) (rh1.laid np) (RD.newTup rh1 np rgV_eq ?_)
      rw [rgV_length, sizeLine_eq]; omega
    · cases hd
  · cases hd
end
end PV
end

section
set_option maxRecDepth 100000
/-! PvZ: isinstance(x, (tuple, list)); isinstance and the field of a caught exception. -/
namespace PV
open PySem PySem.Spec PyProof.Rows L2 PV
section
variable {X : Cx} {a : Expr} {pa : P} {pos np tp p1 p2 : Pos} {c : Cs} {F : Fns} {G : List D} {k : Nat}
def asIsi2 : Expr → Option (Str × Expr × Str × Str)
  | .Call (.Name f _) [y, .Tuple [.Name t1 _, .Name t2 _] _ _] [] _ => some (f, y, t1, t2)
  | _ => none
theorem asIsi2_eq {e y : Expr} {f t1 t2 : Str} (h : asIsi2 e = some (f, y, t1, t2)) : ∃ p q r k tp z, e = .Call (.Name f p) [y, .Tuple [.Name t1 q, .Name t2 r] k tp] [] z := by
  unfold asIsi2 at h
  split at h
  · cases h; exact ⟨_, _, _, _, _, _, rfl⟩
  · cases h
def asFld : Expr → Option (Expr × Str)
  | .Attribute e f _ => some (e, f)
  | _ => none
theorem asFld_eq {e y : Expr} {f : Str} (h : asFld e = some (y, f)) : ∃ p, e = .Attribute y f p := by
  unfold asFld at h
  split at h
  · cases h; exact ⟨_, rfl⟩
  · cases h
/-- what isinstance asks of an exception's class, by a look -/
def exCB (K : PySem.W.Frag) (C : Addr) : Bool := decide (PySem.W.findIn K (.ref C) "__class__" = some (some (.builtin "object.__class__"))) && (decide (PySem.W.specialIn K (.builtin "object.__class__") "__get__" = some (some (.builtin "getset_descriptor.__get__"))) &&
  (decide (PySem.W.takesIn K (.builtin "object.__class__") = some true) && (decide (PySem.W.mroIn K C (.type "object") = some true) && xfB K C)))
theorem exCB_ok {K : PySem.W.Frag} {C : Addr} (h : exCB K C = true) : ExcC K C := by
  (simp only [exCB, Bool.and_eq_true, decide_eq_true_eq] at h)
  obtain ⟨h1, h2, h3, h4, h5⟩ := h
  have x := xfB_ok h5
  exact ⟨x.ga, x.gg, x.exC, x.hdC, h1, h2, h3, h4⟩
theorem two_kit : ∀ n : String, n ∈ ["NoneType", "bool", "int", "str", "tuple", "list", "dict"] → kitB n "tuple" = some (decide (n = "tuple")) ∧ kitB n "list" = some (decide (n = "list")) := by
  intro n hn
  simp only [List.mem_cons, List.not_mem_nil, or_false] at hn
  rcases hn with rfl | rfl | rfl | rfl | rfl | rfl | rfl <;> decide +kernel
theorem two_ops : CallR X (.builtin "isinstance") (fun xs H Q => ∃ J h d v T, RH X.K J h H ∧ d.isO h = false ∧ RD X.K J H d v ∧ xs = [v, .ref T] ∧ H T = some (.tup [.ty "tuple", .ty "list"]) ∧ Q (.bl (isi2Op h d)) H) := by
  intro pins s σ H xs us Q I r ⟨J, h, d, v, T, rh, hf, r1, ex, hT, q⟩
  have hn : d.tyn h ∈ ["NoneType", "bool", "int", "str", "tuple", "list", "dict"] := by
    cases d <;> simp only [D.tyn] <;> try decide
    split <;> decide
  obtain ⟨k1, k2⟩ := two_kit _ hn
  have e2 : (decide (d.tyn h = "tuple") || decide (d.tyn h = "list")) = isi2Op h d := by
    unfold isi2Op
    cases r1 with
    | ref q1 =>
      obtain ⟨o, w, h1, h2, h3⟩ := rh.at q1
      cases o with
      | tb _ _ => simp [D.isO, D.isF, D.isTb, h1] at hf
      | _ => simp [opIsi, D.tyn, h1]
    | ft => cases hf
    | exc => cases hf
    | exf => cases hf
    | _ => simp [opIsi, D.tyn]
  have e : PySem.W.kitAny X.K (.type (d.tyn h)) [.type "tuple", .type "list"] = some (isi2Op h d) := by
    rw [← e2]
    refine kitAny_cons (kit_ty k1) (fun z => ?_) fun z => by rw [z]; rfl
    refine kitAny_cons (kit_ty k2) (fun z2 => ?_) fun z2 => by rw [z2, Bool.or_true]
    rw [z, z2]
    rfl
  exact call_isiT pins s σ H xs us Q I r ⟨v, T, _, _, _, _, ex, hT, .cons (.ty _) (.cons (.ty _) .nil), tyx_of rh hf r1, e, q⟩
theorem se_isi2 (o : Ok c F G X) (h1 : ("isinstance" : Str) ∈ c.bs ∧ c.glb "isinstance" = true) (h2 : ("tuple" : Str) ∈ c.bs ∧ c.glb "tuple" = true) (h3 : ("list" : Str) ∈ c.bs ∧ c.glb "list" = true) (hp : plainX a = true) (ha : SE X a pa) :
    SE X (.Call (.Name "isinstance" np) [a, .Tuple [.Name "tuple" p1, .Name "list" p2] k tp] [] pos) (.plain fun ρ h => (pa.v ρ h).bind fun x h1 => if x.isO h1 then .bad else .ok (.bl (isi2Op h1 x)) h1) := by
  have ty : ∀ (t : Ty) (ht : t ≠ .non) (q : Pos), tyNm t ∈ c.bs ∧ c.glb (tyNm t) = true → PE X (.Name (tyNm t) q) (tC (.ty t.nm)) := fun t ht q g => pe_bltn (v := .ty t.nm) (glb_ok o g.2).1 (o.blt _ g.1) (tyNm_boot t ht) rfl (by cases t <;> decide) (glb_ok o g.2).2
  have two := pe_tup (x1 := k) (pos := tp) (pa_cons (ty .tup (fun z => nomatch z) p1 h2) (pa_cons (ty .lst (fun z => nomatch z) p2 h3) pa_nil))
  refine SE.plain ((pe_callB two_ops (glb_ok o h1.2).1 (o.blt _ h1.1) rfl (pa_cons ha.v (pa_cons two pa_nil) (plain_star hp _ _)) (by decide) (glb_ok o h1.2).2 (plain_star hp _ _) rfl).imp fun σ H Q ⟨ρ, h, J, re, rh, q⟩ => ?_) (fun _ => rfl)
  refine (Post.step (R1 := rD X.K) (f := pa.v) re rh q).mono fun x H1 ⟨J1, h1, dx, e1, re1, rh1, rx, q1⟩ => ?_
  split at q1
  · exact False.elim q1
  · rename_i hf
    refine ⟨by show 2 ≤ sizeLine; rw [sizeLine_eq]; omega, fun T nT => ?_⟩
    exact ⟨J1, h1, dx, x, T, rh1.laid nT, by simpa using hf, rx.ext (Ext.laid nT), rfl, upd_same, q1 J1 _ _ (Ext.laid nT) (rh1.laid nT) (.bl _)⟩
theorem se_isx {y : Str} {yes no : List Str} {q : Pos} (o : Ok c F G X) (h1 : ("isinstance" : Str) ∈ c.bs ∧ c.glb "isinstance" = true) (hg : c.glb y = true) (hx : c.xn y = true) (hp : plainX a = true) (hy : ∀ z ∈ yes, (z, y, true) ∈ c.xm.i) (hn : ∀ z ∈ no, (z, y, false) ∈ c.xm.i) (ha : SE X a pa) :
    SE X (.Call (.Name "isinstance" np) [a, .Name y q] [] pos) (.plain fun ρ h => (pa.v ρ h).bind fun x h1 => R.opt (isxOp yes no x) h1) := by
  obtain ⟨C, hm⟩ := xn_ok o hx
  have nm : PE X (.Name y q) (tC (.ref C)) := pe_glob (v := .ref C) (glb_ok o hg).1 hm rfl (glb_ok o hg).2
  refine SE.plain ((pe_callB call_isX (glb_ok o h1.2).1 (o.blt _ h1.1) rfl (pa_cons ha.v (pa_cons nm pa_nil) (plain_star hp _ _)) (by decide) (glb_ok o h1.2).2 (plain_star hp _ _) rfl).imp fun σ H Q ⟨ρ, h, J, re, rh, q⟩ => ?_) (fun _ => rfl)
  refine (Post.step (R1 := rD X.K) (f := pa.v) re rh q).mono fun x H1 ⟨J1, h1, dx, e1, re1, rh1, rx, q1⟩ => ?_
  obtain ⟨d, hd, q2⟩ := Post.opt rh1 q1
  cases dx with
  | exc z =>
    cases rx with
    | exc n m ea =>
      have go : ∀ b, (z, y, b) ∈ c.xm.i → d = .bl b → rIsX X.K [.ref _, .ref C] H1 Q := fun b mem ed => by
        subst ed
        obtain ⟨C2, m2, ec, ek⟩ := o.exm.i _ _ _ mem
        cases hm.symm.trans m2
        exact ⟨_, z, none, .ref C, .ref C, b, rfl, ea, (fun _ w => nomatch w), fun u ru => ru, ec, ek, q2 _ (.bl b)⟩
      simp only [isxOp] at hd
      split at hd
      · rename_i hz
        exact go true (hy _ hz) (by cases hd; rfl)
      · split at hd
        · rename_i hz
          exact go false (hn _ hz) (by cases hd; rfl)
        · cases hd
  | exf z g d2 =>
    cases rx with
    | exf n m ea n2 m2 eb rd =>
      have go : ∀ b, (z, y, b) ∈ c.xm.i → d = .bl b → rIsX X.K [.ref _, .ref C] H1 Q := fun b mem ed => by
        subst ed
        obtain ⟨C2, m2, ec, ek⟩ := o.exm.i _ _ _ mem
        cases hm.symm.trans m2
        exact ⟨_, z, some _, .ref C, .ref C, b, rfl, ea, (fun _ w => by cases w; exact ⟨_, _, eb⟩), fun u ru => ru, ec, ek, q2 _ (.bl b)⟩
      simp only [isxOp] at hd
      split at hd
      · rename_i hz
        exact go true (hy _ hz) (by cases hd; rfl)
      · split at hd
        · rename_i hz
          exact go false (hn _ hz) (by cases hd; rfl)
        · cases hd
  | _ => cases hd
theorem se_isv {yes : List Str} {q : Pos} (o : Ok c F G X) (h1 : ("isinstance" : Str) ∈ c.bs ∧ c.glb "isinstance" = true) (h2 : ("ValueError" : Str) ∈ c.bs ∧ c.glb "ValueError" = true) (hp : plainX a = true) (hy : ∀ z ∈ yes, z ∈ c.xm.v) (ha : SE X a pa) :
    SE X (.Call (.Name "isinstance" np) [a, .Name "ValueError" q] [] pos) (.plain fun ρ h => (pa.v ρ h).bind fun x h1 => R.opt (isxOp yes [] x) h1) := by
  have nm : PE X (.Name "ValueError" q) (tC (.ty "ValueError")) := pe_bltn (v := .ty "ValueError") (glb_ok o h2.2).1 (o.blt _ h2.1) (by rfl) rfl (by decide) (glb_ok o h2.2).2
  refine SE.plain ((pe_callB call_isX (glb_ok o h1.2).1 (o.blt _ h1.1) rfl (pa_cons ha.v (pa_cons nm pa_nil) (plain_star hp _ _)) (by decide) (glb_ok o h1.2).2 (plain_star hp _ _) rfl).imp fun σ H Q ⟨ρ, h, J, re, rh, q⟩ => ?_) (fun _ => rfl)
  refine (Post.step (R1 := rD X.K) (f := pa.v) re rh q).mono fun x H1 ⟨J1, h1, dx, e1, re1, rh1, rx, q1⟩ => ?_
  obtain ⟨d, hd, q2⟩ := Post.opt rh1 q1
  have yes_ : ∀ {z : Str}, (if z ∈ yes then some (D.bl true) else if z ∈ ([] : List Str) then some (.bl false) else none) = some d → z ∈ yes ∧ d = .bl true := fun {z} e => by
    split at e
    · rename_i m; cases e; exact ⟨m, rfl⟩
    · simp at e
  cases dx with
  | exc z =>
    cases rx with
    | exc n m ea =>
      obtain ⟨mem, rfl⟩ := yes_ hd
      obtain ⟨ec, ek⟩ := o.exm.v z (hy _ mem)
      exact ⟨_, z, none, .ty "ValueError", .type "ValueError", true, rfl, ea, (fun _ w => nomatch w), fun u ru => ru, ec, ek, q2 _ (.bl true)⟩
  | exf z g d2 =>
    cases rx with
    | exf n m ea n2 m2 eb rd =>
      obtain ⟨mem, rfl⟩ := yes_ hd
      obtain ⟨ec, ek⟩ := o.exm.v z (hy _ mem)
      exact ⟨_, z, some _, .ty "ValueError", .type "ValueError", true, rfl, ea, (fun _ w => by cases w; exact ⟨_, _, eb⟩), fun u ru => ru, ec, ek, q2 _ (.bl true)⟩
  | _ => cases hd
theorem se_fld {f : Str} {ks : List Str} (o : XF X.K X.mg c.xm) (hb : baseX a = true) (hk : ∀ z ∈ ks, (z, f) ∈ c.xm.f) (ha : SE X a pa) : SE X (.Attribute a f pos) (.plain fun ρ h => (pa.v ρ h).bind fun x h1 => R.opt (fldOp f ks x) h1) := by
  refine SE.plain ((pe_fld ha.v (base_of hb)).imp fun σ H Q ⟨ρ, h, J, re, rh, q⟩ => ?_) (fun _ => rfl)
  refine (Post.step (R1 := rD X.K) (f := pa.v) re rh q).mono fun x H1 ⟨J1, h1, dx, e1, re1, rh1, rx, q1⟩ => ?_
  obtain ⟨d, hd, q2⟩ := Post.opt rh1 q1
  cases dx with
  | exf z g d2 =>
    simp only [fldOp] at hd
    split at hd
    · rename_i hz
      cases hd
      obtain ⟨rfl, mem⟩ := hz
      cases rx with
      | exf n m ea n2 m2 eb rd =>
        obtain ⟨T, own⟩ := o.f _ _ (hk _ mem)
        exact ⟨z, _, _, _, T, own, rfl, ea, eb, q2 _ rd⟩
    · cases hd
  | _ => cases hd
/-- C(e).f: the very e -/
def asMkf : Expr → Option (Str × Expr × Str)
  | .Attribute (.Call (.Name x _) [e] [] _) f _ => some (x, e, f)
  | _ => none
theorem asMkf_eq {x e : Expr} {y f : Str} (h : asMkf x = some (y, e, f)) : ∃ p q r, x = .Attribute (.Call (.Name y p) [e] [] q) f r := by
  unfold asMkf at h
  split at h
  · cases h; exact ⟨_, _, _, rfl⟩
  · cases h
theorem se_mkf {y f : Str} {p q r : Pos} (o : Ok c F G X) (hc0 : c.hot = false) (hx : (y, f) ∈ c.xg) (hs : ("super" : Str) ∈ c.bs) (hg : c.glb y = true) (hp : plainX a = true) (ha : SE X a pa) : SE X (.Attribute (.Call (.Name y p) [a] [] q) f r) (.plain pa.v) := by
  obtain ⟨m, g, t, n⟩ := o.gate _ hx
  obtain ⟨k, hr, _⟩ := (o.call hc0).ok
  exact SE.plain (pe_gateF g t n (hr.mono (Nat.zero_le _)) (o.blt _ hs) (glb_ok o hg).1 m ha.v (plain_star hp _ _) (glb_ok o hg).2 rfl) (fun _ => rfl)
def asMkfK : Expr → Option (Str × Str × Expr × Str)
  | .Attribute (.Call (.Name x _) [] [⟨some g, e, _⟩] _) f _ => some (x, g, e, f)
  | _ => none
theorem asMkfK_eq {x e : Expr} {y g f : Str} (h : asMkfK x = some (y, g, e, f)) : ∃ p k q r, x = .Attribute (.Call (.Name y p) [] [⟨some g, e, k⟩] q) f r := by
  unfold asMkfK at h
  split at h
  · cases h; exact ⟨_, _, _, _, rfl⟩
  · cases h
theorem se_mkfK {y f : Str} {p kp q r : Pos} (o : Ok c F G X) (hc0 : c.hot = false) (hx : (y, f) ∈ c.xg) (hs : ("super" : Str) ∈ c.bs) (hg : c.glb y = true) (ha : SE X a pa) : SE X (.Attribute (.Call (.Name y p) [] [⟨some f, a, kp⟩] q) f r) (.plain pa.v) := by
  obtain ⟨m, g, t, n⟩ := o.gate _ hx
  obtain ⟨k, hr, _⟩ := (o.call hc0).ok
  exact SE.plain (pe_gateFK g t n (hr.mono (Nat.zero_le _)) (o.blt _ hs) (glb_ok o hg).1 m ha.v (glb_ok o hg).2 rfl) (fun _ => rfl)
theorem se_bad {x : Expr} : SE X x (.plain fun _ _ => .bad) :=
  ⟨⟨fun pins s σ H Q I ⟨ρ, h, J, re, rh, q⟩ => q.elim⟩, ⟨fun pins s σ H Q I ⟨ρ, h, J, re, rh, q⟩ => q.elim⟩⟩
end
end PV
end

section
set_option maxRecDepth 100000
set_option maxHeartbeats 2000001
/-! PvLa: sorted(x, key=lambda p: p[0]). -/
namespace PV
open L2 PyProof.Rows PySem PySem.Spec
section
variable {w : World} {prog : Program} {A : Around} {s : Shared}
/-- the lambda called with a tuple that begins with an int -/
theorem key_call {f c' a : Addr} {q v : Str} {params : Arguments} {scope : Scope} {clos : List (Str × Addr)} {pm ctv : Value} {k : Nat} {p2 p3 p4 : Pos} {its : Array Value} {i : Int} {t : Tok}
    (room : A.depth < recursionLimit) (of1 : s.heap.get? f = some (PySem.W.kla_obj "<lambda>" q params (.Subscript (.Name v p2) (.Constant (.int 0) k p3) p4) scope clos pm c' ctv))
    (kind : scope.kind = .function) (co : scope.isCoroutine = false) (gen : scope.isGenerator = false) (cells : ∀ x ∈ scope.names, x.2 ≠ .cell) (own : scope.names.lookup v = some .local) (hd : (v == ("__debug__" : Str)) = false)
    (rec_ : ∃ (oc : Obj) (vs : Array Value) (tq : Tok), s.heap.get? c' = some oc ∧ oc.data = .fields vs ∧ vs[1]? = some (.str q tq)) (bind : bindArgs (PySem.W.kla_fn "<lambda>" q params (.Subscript (.Name v p2) (.Constant (.int 0) k p3) p4) scope clos pm (.ref c') ctv) ⟨[.ref a], []⟩ = pure [(v, .ref a)])
    (lim : s.heap.NoLimit) (ht : IsTup s.heap a its) (hx : its[0]? = some (.int i t)) :
    wpAny (model prog w) A (PySem.call (.ref f) [.ref a]) (PySem.W.KeyPure (.int i) s) (fun _ _ => False) s := by
  obtain ⟨oc, vs, tq, hoc, hdc, hvc⟩ := rec_
  refine wpAny_call (PySem.W.kla_callFunE room of1 rfl co gen rfl ⟨c', oc, vs, tq, rfl, hoc, hdc, hvc⟩ ?_)
  rw [bind]
  refine wpAny_pure (wpAny_newFunctionEnv cells (fun y hy => ?_) (fun h₁ hns hsb => ⟨lim.fresh _ hsb, ?_⟩) kind)
  · obtain rfl : y = (v, Value.ref a) := by simpa using hy
    exact own
  (have kp : ∀ b o, s.heap.get? b = some o → h₁.get? b = some o := fun b o e => hsb.extBut b o (Nat.ne_of_lt (Heap.lt_size e)) (Heap.get?_push_of_some _ e))
  refine PySem.W.kla_codeExpr (Subscript_ ?_)
  refine wpAny_Name (wpAny_loadName_local (m := fun y => ([(v, Value.ref a)] : List (Str × Value)).reverse.lookup y) (v := .ref a) kind own hns ?_ ?_) hd
  · show List.lookup v [(v, Value.ref a)] = _
    simp [List.lookup]
  refine wpAny_Constant_int ?_
  have ht1 : IsTup h₁ a its := by
    obtain ⟨o, e1, e2⟩ := ht
    exact ⟨o, kp _ _ e1, e2⟩
  have hz : 0 < its.size := (Array.getElem?_eq_some_iff.mp hx).1
  refine item_tuple ht1 (by decide) (by decide) (j := 0) (seqIndex_of (by decide) (by omega)) hx ?_
  exact ⟨h₁, _, rfl, kp, .int i t⟩
end
section
variable {X : Cx} {pins : List (Addr × Obj)}
variable {σ : L2.St} {H : Hp} {s : Shared}
/-- a lambda is made: the table may grow, all else stays -/
theorem lam3 {c P : Addr} {ps : Array Value} {params : Arguments} {body : Expr} {scope : Scope} {pos : Pos} {E : Value → Shared → Prop} {Q : Value → Shared → Prop} (I : L2.Inv X pins σ H s) (TB : LamX.TabB X.base X.mg c P) (hcode : X.env.code = .ref c)
    (hP : H P = some (.tbl ps)) (ht : TriplesOk ps.toList) (ha : ∀ (pos : Pos) (cv : Value), codeAmong pos ps.toList = some cv → ∃ c, cv = .ref c ∧ H c = some (LamX.CodeO c (X.env.qual ++ "<lambda>"))) (hdef : defaultsOf params X.env = ([], [])) (hfree : ∀ y ∈ scope.names, y.2 = .free → ∃ c, X.env.cells.lookup y.1 = some c)
    (h : ∀ (f c' : Addr) (pm ctv : Value) (H1 : Hp) (s' : Shared) (ps' : Array Value), L2.Inv X pins σ H1 s' → (∀ b o, b ≠ P → H b = some o → H1 b = some o) → H1 P = some (.tbl ps') → TriplesOk ps'.toList →
      (∀ (pos : Pos) (cv : Value), codeAmong pos ps'.toList = some cv → codeAmong pos ps.toList = some cv ∨ (cv = .ref c' ∧ H c' = none)) →
      s'.heap.get? f = some (PySem.W.kla_obj "<lambda>" (X.env.qual ++ "<lambda>") params body scope (cloFrom X.env.cells scope.names []) pm c' ctv) → H1 c' = some (LamX.CodeO c' (X.env.qual ++ "<lambda>")) → Q (.ref f) s') :
    wpAny (model X.prog X.w) X.A (eval (Expr.Lambda params body scope pos) X.env) Q E s := by
  (refine PySem.W.kla_eval hdef ?_)
  (have bP : s.heap.BuiltinsAt X.mg P := TB.bm.keeps I.bk)
  (have hP' : s.heap.get? P = some { cls := .none, data := .fields ps } := I.hok P _ hP)
  cases hc : (codeAmong pos ps.toList) with
  | none =>
    (refine PySem.W.kla_makeFunction (mg := X.mg) (c := c) (P := P) (ps := ps) (closure_ok hfree) I.ok.glob (I.mod.glob.keeps I.bk) hcode (TB.code.keeps I.bk) hP' ht hc TB.gP bP fun c' ctv h' tk hx hge hlt hrec htb => ?_)
    (obtain ⟨c2, oc, vs, t, e2, hoc, hd, hv⟩ := hrec)
    cases e2
    (have nC : H c' = none := I.hok.fresh hge)
    have I1 := LamX.inv_table (t' := tk) (more := #[rawInt pos.line, rawInt pos.col, .ref c']) (h' := h'.push (PySem.W.kla_obj "<lambda>" (X.env.qual ++ "<lambda>") params body scope (cloFrom X.env.cells scope.names []) ((X.mg "__name__").getD .none) c' ctv)) I hP
      (fun b o hb e => (Heap.get?_push_of_some _ (hx b o hb e))) (Heap.get?_push_of_some _ htb) hge ⟨oc, vs, t, (Heap.get?_push_of_some _ hoc), hd, hv⟩
    (have eL : (ps ++ #[rawInt pos.line, rawInt pos.col, .ref c']).toList = ps.toList ++ [rawInt pos.line, rawInt pos.col, .ref c'] := by simp)
    refine h h'.objs.size c' ((X.mg "__name__").getD .none) ctv _ _ (ps ++ #[rawInt pos.line, rawInt pos.col, .ref c']) I1 (fun b o hb e => ?_) ?_ (by rw [eL]; exact PySem.TriplesOk_snoc _ _ _ _ ht) (fun p' cv hcv => ?_) (Heap.get?_push_size _ rfl) upd_same
    · rw [upd_ne (ne_of_none e nC), upd_ne hb]
      exact e
    · rw [upd_ne (ne_of_none hP nC), upd_same]
    · rw [eL] at hcv
      rcases LamX.among_app _ ht hcv with z | z
      · exact .inl z
      · exact .inr ⟨z, nC⟩
  | some cv =>
    (obtain ⟨c', e, hco⟩ := ha pos cv hc)
    subst e
    (refine PySem.W.kla_makeFunctionHit (mg := X.mg) (c := c) (P := P) (ps := ps) (closure_ok hfree) I.ok.glob (I.mod.glob.keeps I.bk) hcode (TB.code.keeps I.bk) hP' ht hc bP fun ctv h' tk hx hsz => ?_)
    have I1 : L2.Inv X pins σ H { s with heap := h'.push (PySem.W.kla_obj "<lambda>" (X.env.qual ++ "<lambda>") params body scope (cloFrom X.env.cells scope.names []) ((X.mg "__name__").getD .none) c' ctv), toks := tk } := I.kept fun b o e => Heap.get?_push_of_some _ (hx b o e)
    exact h h'.objs.size c' ((X.mg "__name__").getD .none) ctv H _ ps I1 (fun _ _ _ e => e) hP ht (fun _ _ e => .inl e) (Heap.get?_push_size _ rfl) hco
end
/-- the table written -/
theorem RH.tabbed {K : PySem.W.Frag} {J : Jn} {h : Hh} {H H' : Hp} {i P : Nat} {q : Str} {ps : Array Value} (r : RH K J h H) (e : h[i]? = some (.tb P q)) (k : ∀ b o, b ≠ P → H b = some o → H' b = some o) (hP : H' P = some (.tbl ps)) (ro : RO K J H' (.tb P q) (.tbl ps)) : Ext J H J H' ∧ RH K J h H' := by
  have eP := r.tbs i P q e
  have mP : P ∈ J.l := List.mem_of_getElem? eP
  have ex : Ext J H J H' := ⟨rfl, ⟨[], by simp, by simp⟩, fun b o n z => k b o (fun w => n (w ▸ mP)) z⟩
  refine ⟨ex, r.nd, r.len, fun j ob ej => ?_, r.apart, fun b hb => ?_, r.tbs⟩
  · obtain ⟨b, u, h1, h2, h3⟩ := r.obj j ob ej
    by_cases hb : b = P
    · subst hb
      have hij : j = i := by
        obtain ⟨l1, e1⟩ := List.getElem?_eq_some_iff.mp eP
        obtain ⟨l2, e2⟩ := List.getElem?_eq_some_iff.mp h1
        exact (List.getElem_inj r.nd).mp (e2.trans e1.symm)
      subst hij
      rw [e] at ej
      cases ej
      exact ⟨_, _, h1, hP, ro⟩
    · exact ⟨b, u, h1, k b u hb h2, h3.ext ex⟩
  · have nb : b ≠ P := fun w => r.apart b hb (w ▸ mP)
    cases q2 : H b with
    | none => exact absurd q2 (r.zed b hb)
    | some u => rw [k b u nb q2]; simp
theorem tb_at {K : PySem.W.Frag} {J : Jn} {h : Hh} {H : Hp} {i P : Nat} {q : Str} (r : RH K J h H) (e : h[i]? = some (.tb P q)) : ∃ ps : Array Value, H P = some (.tbl ps) ∧ RO K J H (.tb P q) (.tbl ps) := by
  obtain ⟨o, u, h1, h2, h3⟩ := r.at (r.tbs i P q e)
  rw [e] at h1
  cases h1
  cases h3 with
  | tb t rr => exact ⟨_, h2, .tb t rr⟩
theorem tbAt_ok {G : List D} {h : Hh} {q : Str} {P : Nat} (hG : G.getLast? = some (.int P)) (e : tbAt G h q = true) : h[0]? = some (.tb P q) := by
  unfold tbAt at e
  rw [hG] at e
  split at e
  · rename_i P1 P2 q2 a b
    simp only [Bool.and_eq_true, decide_eq_true_eq] at e
    cases a
    obtain ⟨e1, rfl⟩ := e
    have : P = P2 := by omega
    subst this
    exact b
  · cases e
/-- a value and its data, paired off -/
theorem rds_each {K : PySem.W.Frag} {J : Jn} {H : Hp} : ∀ {ds : List D} {vs : List V} {us : List Value}, RDs K J H ds vs → Vals vs us → PySem.W.EachIs (fun (u : Value) (b : V × D) => RelV b.1 u ∧ RD K J H b.2 b.1) us (vs.zip ds)
  | _, _, _, .nil, .nil => .nil
  | _, _, _, .cons r t, .cons x y => .cons ⟨x, r⟩ (rds_each t y)
theorem each_rds {K : PySem.W.Frag} {J : Jn} {H : Hp} : ∀ {bs : List (V × D)} {us : List Value}, PySem.W.EachIs (fun (u : Value) (b : V × D) => RelV b.1 u ∧ RD K J H b.2 b.1) us bs → RDs K J H (bs.map (·.2)) (bs.map (·.1)) ∧ Vals (bs.map (·.1)) us
  | _, _, .nil => ⟨.nil, .nil⟩
  | _, _, .cons r t => ⟨.cons r.2 (each_rds t).1, .cons r.1 (each_rds t).2⟩
theorem rds_all {K : PySem.W.Frag} {J : Jn} {H : Hp} : ∀ {ds : List D} {vs : List V}, RDs K J H ds vs → (vs.zip ds).map (·.2) = ds ∧ (vs.zip ds).length = ds.length
  | _, _, .nil => ⟨rfl, rfl⟩
  | _, _, .cons _ t => ⟨congrArg (_ :: ·) (rds_all t).1, congrArg (· + 1) (rds_all t).2⟩
/-! ### the text -/
def asSrtK : Expr → Option (Expr × Str × Arguments × Scope)
  | .Call (.Name f _) [y] [⟨some g, .Lambda params (.Subscript (.Name v _) (.Constant (.int i) _ _) _) scope _, _⟩] _ => if f = "sorted" ∧ g = "key" ∧ i = 0 then some (y, v, params, scope) else none
  | _ => none
theorem asSrtK_eq {x y : Expr} {v : Str} {params : Arguments} {scope : Scope} (h : asSrtK x = some (y, v, params, scope)) : ∃ p1 p2 k p3 p4 p5 p6 p7, x = .Call (.Name "sorted" p1) [y] [⟨some "key", .Lambda params (.Subscript (.Name v p2) (.Constant (.int 0) k p3) p4) scope p5, p6⟩] p7 := by
  unfold asSrtK at h
  split at h
  · split at h
    · rename_i hc
      obtain ⟨rfl, rfl, rfl⟩ := hc
      cases h
      exact ⟨_, _, _, _, _, _, _, _, rfl⟩
    · cases h
  · cases h
/-- one plain parameter, a scope of its name alone -/
def lamB (v : Str) (params : Arguments) (sc : Scope) : Bool := (match params with
  | ⟨[], [ar], none, [], [], none, []⟩ => decide (ar.arg = v) && decide (v = "pair")
  | _ => false) && (match sc.names with
  | [(y, .local)] => decide (y = v)
  | _ => false) && decide (sc.kind = .function) && !sc.isCoroutine && !sc.isGenerator && !(v == ("__debug__" : Str))
theorem bind_pair {q : Str} {ar : Arg} {body : Expr} {scope : Scope} {pm ctv : Value} {c' a : Addr} {clos : List (Str × Addr)} (h : ar.arg = "pair") : bindArgs (PySem.W.kla_fn "<lambda>" q ⟨[], [ar], none, [], [], none, []⟩ body scope clos pm (.ref c') ctv) ⟨[.ref a], []⟩ = pure [(ar.arg, .ref a)] := by
  obtain ⟨x, y, z⟩ := ar
  cases h
  kernel_rfl
theorem lamB_ok {v : Str} {params : Arguments} {sc : Scope} (h : lamB v params sc = true) : (∃ ar, params = ⟨[], [ar], none, [], [], none, []⟩ ∧ ar.arg = v ∧ v = "pair") ∧ sc.names = [(v, .local)] ∧ sc.kind = .function ∧ sc.isCoroutine = false ∧ sc.isGenerator = false ∧ (v == ("__debug__" : Str)) = false := by
  simp only [lamB, Bool.and_eq_true, Bool.not_eq_true', decide_eq_true_eq] at h
  obtain ⟨⟨⟨⟨⟨h1, h2⟩, h3⟩, h4⟩, h5⟩, h6⟩ := h
  refine ⟨?_, ?_, h3, h4, h5, h6⟩
  · split at h1
    · simp only [Bool.and_eq_true, decide_eq_true_eq] at h1
      exact ⟨_, rfl, h1.1, h1.2⟩
    · cases h1
  · split at h2
    · rename_i y e
      rw [e, of_decide_eq_true h2]
    · cases h2
section
variable {c : Cs} {F : Fns} {G : List D} {X : Cx}
/-- the sort of pairs, by their data -/
theorem srtK_pairs (bs : List (V × D)) : (bs.mergeSort fun a b => decide (a.2.keyL ≤ b.2.keyL)).map (·.2) = (bs.map (·.2)).mergeSort fun a b => decide (a.keyL ≤ b.keyL) :=
  List.map_mergeSort fun _ _ _ _ => rfl
theorem list_of {h : Heap} {p : Addr} {its : Array Value} (h1 : PlainL h p its) : h.IsList p its := by
  obtain ⟨o, n, e1, e2, e3, e4⟩ := h1
  exact ⟨o, e1, e2, n, e4⟩
theorem tup_of {h h' : Heap} {p : Addr} {its : Array Value} (kp : ∀ b o, h.get? b = some o → h'.get? b = some o) (t : IsTup h p its) : IsTup h' p its := by
  obtain ⟨o, e1, e2⟩ := t
  exact ⟨o, kp _ _ e1, e2⟩
theorem se_srtK {a : Expr} {pa : P} {v : Str} {params : Arguments} {scope : Scope} {k : Nat} {p1 p2 p3 p4 p5 p6 p7 : Pos} (o : Ok c F G X) (hc0 : c.hot = false) (hl : c.lq ≠ "") (hm : ("sorted" : Str) ∈ c.bs) (hg : c.glb "sorted" = true) (hb : lamB v params scope = true) (hp : plainX a = true) (ha : SE X a pa) :
    SE X (.Call (.Name "sorted" p1) [a] [⟨some "key", .Lambda params (.Subscript (.Name v p2) (.Constant (.int 0) k p3) p4) scope p5, p6⟩] p7) (.plain fun ρ h => (pa.v ρ h).bind fun x h1 => if tbAt G h1 c.lq then R.opt (srtKOp h1 x) h1 else .bad) := by
  obtain ⟨P, cA, hG, TB, hcode, hq⟩ := o.lam hl
  obtain ⟨⟨ar, rfl, har, hpair⟩, hn, hk, hco, hge, hd⟩ := lamB_ok hb
  obtain ⟨kk, hr, _⟩ := (o.call hc0).ok
  refine SE.plain ⟨fun pins s σ H Q I ⟨ρ, h, J, re, rh, q⟩ => ?_⟩ (fun _ => rfl)
  refine wpAny_Call_Name_kw (ld_blt I (glb_ok o hg).1 (o.blt _ hm) rfl ?_ (by decide) (glb_ok o hg).2)
  let Q1 : List V → Hp → Prop := fun xs H1 => match xs with
    | [x] => ∃ J1 h1 d, RH X.K J1 h1 H1 ∧ RD X.K J1 H1 d x ∧ Post X.K J1 H1 (rD X.K) (if tbAt G h1 c.lq then R.opt (srtKOp h1 d) h1 else .bad) Q
    | _ => False
  have first : tCons (tG X.K (rD X.K) pa.v) tNil σ H Q1 := (Post.step (R1 := rD X.K) (f := pa.v) re rh q).mono fun x H1 ⟨J1, h1, dx, e1, re1, rh1, rx, q1⟩ => ⟨J1, h1, dx, rh1, rx, q1⟩
  refine PyProof.Rows.callWith_kw (thn ((pa_cons ha.v pa_nil (plain_star hp _ _)).run p7 pins s σ H Q1 I first) fun us s1 ⟨vs, H1, I1, r1, q1⟩ => ?_) (by rw [plain_star hp]; rfl) (by rw [plain_star hp]; rfl) (by rfl) (by rfl)
  have both : ∃ x u, vs = [x] ∧ us = [u] ∧ RelV x u ∧ ∃ J1 h1 d, RH X.K J1 h1 H1 ∧ RD X.K J1 H1 d x ∧ Post X.K J1 H1 (rD X.K) (if tbAt G h1 c.lq then R.opt (srtKOp h1 d) h1 else .bad) Q := by
    cases r1 with
    | nil => exact q1.elim
    | cons ru rn =>
      cases rn with
      | cons _ _ => exact q1.elim
      | nil => exact ⟨_, _, rfl, rfl, ru, q1⟩
  obtain ⟨x, u, rfl, rfl, ru, J1, h1, dx, rh1, rx, q1⟩ := both
  split at q1
  · rename_i ht
    have e0 := tbAt_ok hG ht
    obtain ⟨ps, hP, ro⟩ := tb_at rh1 e0
    cases ro with
    | tb tr codes =>
      refine kws_cons (lam3 I1 TB hcode hP tr (fun pos cv hcv => ?_) rfl (fun y hy e => ?_) fun f c' pm ctv H2 s2 ps' I2 kp2 hP2 tr2 old hf hc2 => kws_nil ?_)
      · obtain ⟨c1, e1, _, _, e2⟩ := codes pos cv hcv
        exact ⟨c1, e1, by rw [hq]; exact e2⟩
      · rw [hn] at hy
        simp only [List.mem_cons, List.not_mem_nil, or_false] at hy
        rw [hy] at e
        cases e
      rw [hq] at hf hc2
      have nt : ∀ {b : Addr} {q : Str}, H1 b = some (LamX.CodeO b q) → b ≠ P := fun e w => by
        rw [w, hP] at e
        exact LamX.codeO_ne ps (Option.some.inj e).symm
      obtain ⟨ex, rh2⟩ := rh1.tabbed e0 kp2 hP2 (.tb tr2 fun pos cv hcv => by
        rcases old pos cv hcv with z | ⟨z, n⟩
        · obtain ⟨c1, e1, n1, n2, e2⟩ := codes pos cv z
          exact ⟨c1, e1, n1, n2, kp2 _ _ (nt e2) e2⟩
        · exact ⟨c', z, rh1.notin n, rh1.notz n, hc2⟩)
      have rx2 := rx.ext ex
      obtain ⟨r, hs, q2⟩ := Post.optX q1
      unfold srtKOp at hs
      split at hs
      · rename_i ds hres
        split at hs
        · rename_i hz
          cases hs
          simp only [Bool.and_eq_true, List.all_eq_true] at hz
          obtain ⟨hkeys, hz⟩ := hz
          obtain ⟨p, ws, rfl, sq, zl, rr⟩ := res_inv rh2 hres rx2
          cases (show u = Value.ref p from ru)
          obtain ⟨its, rv, pl, _⟩ := I2.list sq
          have e := rds_each rr rv
          obtain ⟨z1, z2⟩ := rds_all rr
          obtain ⟨⟨oc, cvs, tq, g1, g2, g3⟩, _, _⟩ := I2.hok c' _ hc2
          obtain ⟨mc, m1, m2⟩ := I2.mod.nolimit
          have keyI : ∀ d ∈ ds, ∃ i rest, d = .tup (.int i :: rest) ∧ d.keyL = i := fun d hd => by
            have w := hkeys d hd
            unfold keyD at w
            split at w
            · exact ⟨_, _, rfl, rfl⟩
            · cases w
          refine PySem.W.sorted_key_data (b := false) (kw := [(Str.ofString "key", .ref f)]) (f := .ref f) (k := fun b : V × D => .int b.2.keyL) (vs := its) (bs := ws.zip ds) ?_ e (PySem.W.AllAlike.of fun _ _ => by simp [PySem.W.alike]) (PySem.W.Sortable.others fun _ => ⟨fun w => (by cases w), fun _ w => by cases w⟩)
            (by rw [z2, rr.length]; exact zl) (fun b _ => ?_) (PyProof.Rows.ksk_s1 _ _) (fun _ => PyProof.Rows.ksk_l1 _ _) (fun _ => PyProof.Rows.ksk_t1 _ _) (fun w b hR hmem h' tk kp => ?_) fun out cc h' tk kp hfresh hlist hlen eo => ?_
          · exact list_of pl
          · show X.A.units + 2 + (PyData.int b.2.keyL).depth < cLine
            have := o.units
            simp only [PyData.depth]
            omega
          · obtain ⟨hw, hrd⟩ := hR
            obtain ⟨i, rest, ei, ek⟩ := keyI b.2 (List.of_mem_zip (show (b.1, b.2) ∈ ws.zip ds from hmem)).2
            rw [ek]
            rw [ei] at hrd
            obtain ⟨ta, tvs, et, tsq, _, trs⟩ := hrd.tup_inv
            rw [et] at hw
            cases (show w = Value.ref ta from hw)
            obtain ⟨tits, trv, tht, _⟩ := I2.tuple tsq
            cases trs with
            | cons ri _ =>
              cases ri
              cases trv with
              | cons ru0 _ =>
                obtain ⟨t0, rfl⟩ := ru0
                subst har
                exact key_call (s := { s2 with heap := h', toks := tk }) (by have := hr.dp; show X.A.depth < recursionLimit; omega) (kp _ _ hf) hk hco hge (by rw [hn]; intro y hy; simp only [List.mem_cons, List.not_mem_nil, or_false] at hy; rw [hy]; exact fun w => nomatch w) (by rw [hn]; simp [List.lookup]) hd ⟨oc, cvs, tq, kp _ _ g1, g2, g3⟩ (by exact bind_pair hpair) ((I2.mod.nolimit.keeps I2.bk).keeps kp) (tup_of kp tht) rfl
          · rw [PySem.W.dataLe_int (fun b : V × D => b.2.keyL)] at eo
            obtain ⟨r3, v3⟩ := each_rds eo
            rw [srtK_pairs, z1] at r3
            have np : H2 (s2.heap.objs.size + 1) = none := I2.hok.fresh (Nat.le_succ _)
            have len3 : (((ws.zip ds).mergeSort fun a b => decide (a.2.keyL ≤ b.2.keyL)).map (·.1)).length ≤ sizeLine := by
              rw [List.length_map, List.length_mergeSort, z2, rr.length]
              exact zl
            have I3 := I2.laid (a := s2.heap.objs.size + 1) (o := .lst (((ws.zip ds).mergeSort fun a b => decide (a.2.keyL ≤ b.2.keyL)).map (·.1))) (t' := tk) kp (Nat.le_succ _) ⟨len3, out, cc, v3, hlist⟩
            exact ⟨.ref (s2.heap.objs.size + 1), _, I3, rfl, q2 J1 _ _ (ex.trans rh1 rh2 (Ext.laid np)) (rh2.laid np) (RD.newLst rh2 np r3 len3)⟩
        · cases hs
      · cases hs
  · exact q1.elim
end
end PV
end

section
set_option maxRecDepth 100000
set_option maxHeartbeats 2000001
/-! PvLb: d.pop(k), list.count, list(range(n)) as a new list, [e for v in d.values()]. -/
namespace PV
open L2 PyProof.Rows PySem PySem.Spec
section
variable {X : Cx} {a b : Expr} {pa pb : P} {apos cpos : Pos} {c : Cs} {F : Fns} {G : List D}
theorem isDc_ok {K : PySem.W.Frag} {J : Jn} {H : Hp} {h : Hh} {d : D} {v : V} (rh : RH K J h H) (r : RD K J H d v) (e : d.isDc h = true) : ∃ i p kvs kws, d = .ref i ∧ v = .ref p ∧ J.l[i]? = some p ∧ h[i]? = some (.dct kvs) ∧ H p = some (.dK kws) := by
  cases d with
  | ref i =>
    cases r with
    | ref q =>
      obtain ⟨o, u, h1, h2, h3⟩ := rh.at q
      simp only [D.isDc, h1] at e
      cases h3 with
      | lst z rr => cases e
      | dct z rr => exact ⟨_, _, _, _, rfl, rfl, q, h1, h2⟩
      | tb _ _ => cases e
  | _ => cases e
theorem dropD_rel {K : PySem.W.Frag} {J : Jn} {H : Hp} {k : Key} : ∀ {kvs : List (Key × D)} {kws : List (Key × V)}, Paired (fun p q => p.1 = q.1 ∧ RD K J H p.2 q.2) kvs kws → Paired (fun p q => p.1 = q.1 ∧ RD K J H p.2 q.2) (dropD kvs k) (dropK kws k)
  | [], _, .nil => .nil
  | p :: ps, q :: qs, .cons x t => by
    have ih := dropD_rel (k := k) t
    unfold dropD at ih ⊢
    unfold dropK at ih ⊢
    by_cases hk : p.1 = k
    · have hk2 : q.1 = k := by rw [← x.1]; exact hk
      simpa [List.filter_cons, hk, hk2] using ih
    · have hk2 : q.1 ≠ k := by rw [← x.1]; exact hk
      simp only [List.filter_cons, ne_eq, hk, hk2, not_false_eq_true, decide_true, if_true]
      exact .cons x ih
theorem dropK_le {kws : List (Key × V)} {k : Key} : (dropK kws k).length ≤ kws.length := by unfold dropK; exact List.length_filter_le _ _
theorem se_dpop {m : M1 X a "pop" apos b cpos} (ha : SE X a pa) (hb : SE X b pb) :
    SE X (.Call (.Attribute a "pop" apos) [b] [] cpos) (.plain fun ρ h => (pa.v ρ h).bind fun x h1 => if x.isDc h1 then (pb.v ρ h1).bind fun y h2 => dpopOp x y h2 else .bad) := by
  refine SE.plain ((pe_dpop1 ha.v hb.v m).imp fun σ H Q ⟨ρ, h, J, re, rh, q⟩ => ?_) (fun _ => rfl)
  refine (Post.step (R1 := rD X.K) (f := pa.v) re rh q).mono fun x H1 ⟨J1, h1, dx, e1, re1, rh1, rx, q1⟩ => ?_
  split at q1
  · rename_i hd
    obtain ⟨i, p, kvs, kws, rfl, rfl, q2, e2, e3⟩ := isDc_ok rh1 rx hd
    refine ⟨p, rfl, .inl ⟨kws, .inl e3⟩, ?_⟩
    refine (Post.step (R1 := rD X.K) (f := pb.v) re1 rh1 q1).mono fun y H2 ⟨J2, h2, dy, e4, re2, rh2, ry, q3⟩ => ?_
    have q4 := e4.get q2
    obtain ⟨ob, u, h5, h6, h7⟩ := rh2.at q4
    unfold dpopOp at q3
    simp only [h5] at q3
    cases h7 with
    | lst z rr => exact False.elim q3
    | tb _ _ => exact False.elim q3
    | @dct kvs2 kws2 z rr =>
      cases hk : dy.key with
      | none => simp only [hk] at q3; exact False.elim q3
      | some k =>
        simp only [hk] at q3
        rcases valD_rel rr k with ⟨hv, _⟩ | ⟨v, w, hv, hw, rw_⟩
        · simp only [hv] at q3; exact False.elim q3
        · simp only [hv] at q3
          have ex : Ext J2 H2 J2 (upd H2 p (.dK (dropK kws2 k))) := Ext.write q4
          refine ⟨kws2, k, w, h6, key_inv hk ry, hw, q3 _ _ _ ex (rh2.write q4 (.dct (Nat.le_trans dropK_le z) ?_)) (rw_.ext ex)⟩
          exact Paired.mapP (dropD_rel rr) fun p q x => ⟨x.1, x.2.ext ex⟩
  · exact False.elim q1
/-! ### list.count -/
def rCnt (K : PySem.W.Frag) : V → List V → Hp → VK → Prop :=
  fun x xs H Q => ∃ p J ds vs z, x = .ref p ∧ xs = [.int z] ∧ SqL K H p vs ∧ RDs K J H ds vs ∧ ds.all D.atm = true ∧ Q (.int (ds.countP (D.isI z) : Nat)) H
theorem atm_reads {K : PySem.W.Frag} {J : Jn} {H : Hp} {h : Heap} : ∀ {ds : List D} {vs : List V} {us : List Value}, RDs K J H ds vs → Vals vs us → ds.all D.atm = true → ReadsAll h us (ds.map D.py) []
  | _, _, _, .nil, .nil, _ => .nil
  | d :: ds, _, _, .cons r t, .cons x y, e => by
    simp only [List.all_cons, Bool.and_eq_true] at e
    have ih := atm_reads (h := h) t y e.2
    cases d with
    | non => cases r; cases x; exact .cons .none ih
    | int i => cases r; obtain ⟨tk, rfl⟩ := x; exact .cons (.int _ _) ih
    | _ => cases e.1
theorem atm_plain : ∀ {ds : List D}, ds.all D.atm = true → PyData.plainAll (ds.map D.py) = true ∧ PyData.depthAll (ds.map D.py) = 0
  | [], _ => ⟨rfl, rfl⟩
  | d :: ds, e => by
    simp only [List.all_cons, Bool.and_eq_true] at e
    obtain ⟨h1, h2⟩ := atm_plain e.2
    cases d with
    | non => exact ⟨by simp [D.py, PyData.plainAll, PyData.plain, h1], by simp [D.py, PyData.depthAll, PyData.depth, h2]⟩
    | int i => exact ⟨by simp [D.py, PyData.plainAll, PyData.plain, h1], by simp [D.py, PyData.depthAll, PyData.depth, h2]⟩
    | _ => cases e.1
theorem atm_count {z : Int} : ∀ {ds : List D}, ds.all D.atm = true → (ds.map D.py).countP (fun y => PyData.eqv y (.int z)) = ds.countP (D.isI z)
  | [], _ => rfl
  | d :: ds, e => by
    simp only [List.all_cons, Bool.and_eq_true] at e
    rw [List.map_cons, List.countP_cons, List.countP_cons, atm_count e.2]
    cases d with
    | non => simp [D.py, D.isI, PyData.eqv]
    | int i => simp [D.py, D.isI, PyData.eqv]
    | _ => cases e.1
theorem mt_cnt (hu : X.A.units + 200 < cLine) : MtR X "list.count" (rCnt X.K) := by
  intro pins s σ H x xs v us Q I rx rs g
  obtain ⟨p, J, ds, vs, z, rfl, rfl, hq, rr, ha, q⟩ := g
  cases rx
  (obtain ⟨u, rfl, t, rfl⟩ := vals1 rs)
  obtain ⟨its, r, pl, hl⟩ := I.list hq
  obtain ⟨a1, a2⟩ := atm_plain ha
  refine SeqAt.count_list_data (list_of pl) (by simpa using atm_reads rr r ha) (.int z t) a1 rfl (by rw [a2]; simp; omega) ?_
  rw [atm_count ha]
  exact ⟨.int (ds.countP (D.isI z) : Nat), H, I.tok _, ⟨_, rfl⟩, q⟩
theorem cts_st {K : PySem.W.Frag} {J2 : Jn} {H2 : Hp} {h2 : Hh} {d : D} {v : V} {ds : List D} (rh2 : RH K J2 h2 H2) (r : RD K J2 H2 d v) (e : d.cts h2 = some ds) : ∃ p vs, v = .ref p ∧ SqL K H2 p vs ∧ RDs K J2 H2 ds vs := by
  cases d with
  | ftup xs => cases e
  | exc c => cases e
  | exf c f d => cases e
  | _ => exact ixs_st rh2 r rfl e
theorem se_cnt {es : List Expr} {e0 : Expr} {pl : PL} (hu : X.A.units + 200 < cLine) (hx : baseX a = true) (hline : (apos.endLine == cpos.line) = true) (hp : plainXs (e0 :: es) = true) (hlen : (e0 :: es).length < 30) (ha : SE X a pa) (hl : SEs X (e0 :: es) pl) :
    SE X (.Call (.Attribute a "count" apos) (e0 :: es) [] cpos) (mthC pa pl) := by
  have hp' := hp
  simp only [plainXs, Bool.and_eq_true] at hp'
  refine SE.plain ((pe_bm PySem.F.plainAttrs_list PySem.F.slot_list_count rfl (mt_cnt hu) ha.v hl.l (base_of hx) (few_of _ _ hp hlen) hline (plain_star hp'.1 _ _) (plainXs_any _ _ hp'.2)).imp fun σ H Q ⟨ρ, h, J, re, rh, q⟩ => ?_) (fun _ => rfl)
  refine (Post.step (R1 := rD X.K) (f := pa.v) re rh q).mono fun b H1 ⟨J1, h1, dx, e1, re1, rh1, rx, q1⟩ => ?_
  split at q1
  · rename_i hi
    obtain ⟨ds, eds⟩ := Option.isSome_iff_exists.mp hi
    obtain ⟨p, vs, rfl, hq, rr⟩ := cts_st rh1 rx eds
    refine ⟨.inl ⟨rfl, _, hq⟩, ?_⟩
    refine (Post.step (R1 := rDs X.K) (f := pl.l) re1 rh1 q1).mono fun xs H2 ⟨J2, h2, es2, e2, re2, rh2, rs, q2⟩ => ?_
    obtain ⟨d, hd, q3⟩ := Post.optX q2
    simp only [Option.bind_eq_some_iff] at hd
    obtain ⟨ds2, hds, hd⟩ := hd
    obtain ⟨p2, vs2, ep, hs, rr2⟩ := cts_st rh2 (rx.ext e2) hds
    unfold cntD at hd
    split at hd
    · rename_i z
      split at hd
      · rename_i hall
        cases hd
        obtain ⟨w, rfl, r1⟩ := one_inv rs
        cases r1
        exact ⟨p2, J2, ds2, vs2, z, ep, rfl, hs, rr2, hall, q3 _ _ _ Ext.refl rh2 (.int _)⟩
      · cases hd
    · cases hd
  · exact False.elim q1
/-! ### list(range(n)), new -/
theorem Ext.fresh {K : PySem.W.Frag} {J J1 : Jn} {H H1 : Hp} {h1 : Hh} {p : Addr} (rh1 : RH K J1 h1 H1) (e1 : Ext J H J1 H1) (np : H1 p = none) : H p = none := by
  cases hp : H p with
  | none => rfl
  | some u =>
    exfalso
    by_cases n : p ∈ J.l
    · obtain ⟨m, hm, _⟩ := e1.pre
      obtain ⟨u', h2⟩ := rh1.inl (a := p) (by rw [hm]; exact List.mem_append_left _ n)
      rw [np] at h2; cases h2
    · have := e1.keep p u n hp; rw [np] at this; cases this
theorem Post.stepL {K : PySem.W.Frag} {J : Jn} {H : Hp} {h : Hh} {ρ : PV.Env} {σ : L2.St} {f : PV.Env → Hh → R D} {Q : VK} (re : RE K J H ρ σ) (rh : RH K J h H)
    (p : match (f ρ h).bind fun x h1 => R.opt (lrgOp x) h1 with
      | .ok (.lst ds) h' => ∀ J' H' a vs, Ext J H ⟨J'.l, J.z⟩ H' → J'.z = a :: J.z → RH K J' h' H' → H' a = some (.lst vs) → vs.length ≤ sizeLine → RDs K J' H' ds vs → H a = none → Q (.ref a) H'
      | _ => False) :
    tG K (rD K) f σ H (fun b H1 => ∃ J1 h1 dx, Ext J H J1 H1 ∧ RE K J1 H1 ρ σ ∧ RH K J1 h1 H1 ∧ RD K J1 H1 dx b ∧ ∃ n, dx = .int n ∧ (0 ≤ n ∧ n ≤ 16777216) ∧ ∀ J' H' a vs, Ext J H ⟨J'.l, J.z⟩ H' → J'.z = a :: J.z → RH K J' h1 H' → H' a = some (.lst vs) → vs.length ≤ sizeLine → RDs K J' H' (rngD 0 n) vs → H a = none → Q (.ref a) H') := by
  refine ⟨ρ, h, J, re, rh, ?_⟩
  cases ev : f ρ h with
  | bad => rw [ev] at p; exact p
  | err _ _ => rw [ev] at p; exact p
  | ok dx h1 =>
    rw [ev, R.bind_ok] at p
    intro J1 H1 b e1 rh1 rl
    cases hl : lrgOp dx with
    | none => rw [hl] at p; exact False.elim p
    | some d =>
      rw [hl] at p
      unfold lrgOp at hl
      split at hl
      · rename_i n
        split at hl
        · rename_i hz
          cases hl
          exact ⟨J1, h1, _, e1, re.ext e1, rh1, rl, n, rfl, hz, p⟩
        · cases hl
      · cases hl
theorem sf_lrg {np ep cp pos : Pos} (o : Ok c F G X) (hc0 : c.hot = false) (hm : ("list" : Str) ∈ c.bs) (hg : c.glb "list" = true) (hm2 : ("range" : Str) ∈ c.bs) (hg2 : c.glb "range" = true) (hp : plainX a = true) (ha : SE X a pa) :
    PE X (.Call (.Name "list" np) [.Call (.Name "range" ep) [a] [] cp] [] pos) (tF X.K fun ρ h => (pa.v ρ h).bind fun x h1 => R.opt (lrgOp x) h1) := by
  refine ((pe_listRg (o.calm hc0) (glb_ok o hg).1 (o.blt _ hm) (prg_1 (glb_ok o hg2).1 (o.blt _ hm2) ha.v (plain_star hp _ _)) rfl).imp fun σ H Q ⟨ρ, h, J, re, rh, q⟩ => ?_)
  refine (Post.stepL (f := pa.v) re rh q).mono fun x H1 ⟨J1, h1, dx, e1, re1, rh1, rx, q1⟩ => ?_
  obtain ⟨n, rfl, hz, q2⟩ := q1
  refine ⟨n, rx.int_inv, RgOk.of_le (by omega) (by omega) (by omega) (by omega), fun p np => ?_⟩
  refine q2 (J1.hide p) _ p _ ⟨rfl, e1.pre, fun a o n q => by rw [upd_ne (ne_of_none (e1.keep a o n q) np)]; exact e1.keep a o n q⟩ (by show p :: J1.z = p :: J.z; rw [e1.z]) (rh1.hide np) upd_same (by rw [rgV_length, sizeLine_eq]; omega) ((rgV_eq.sub (Sub.hide np)).ext (Ext.laid np)) (Ext.fresh rh1 e1 np)
end
/-! ### [e for v in d.values()] -/
section
variable {K : PySem.W.Frag} {J J' : Jn} {H H' : Hp}
mutual
theorem RD.bare (e : ∀ a o, a ∉ J.l → a ∉ J.z → H a = some o → a ∉ J'.l ∧ a ∉ J'.z ∧ H' a = some o) : ∀ {d : D} {v : V}, d.rlt 0 = true → RD K J H d v → RD K J' H' d v
  | _, _, _, .non => .non
  | _, _, _, .bl b => .bl b
  | _, _, _, .int i => .int i
  | _, _, _, .str x => .str x
  | _, _, w, .tup n m q z r => .tup (e _ _ n m q).1 (e _ _ n m q).2.1 (e _ _ n m q).2.2 z (RDs.bare e w r)
  | _, _, w, .ktup k z r => .ktup k z (RDs.bare e w r)
  | _, _, w, .lst n m q z r => .lst (e _ _ n m q).1 (e _ _ n m q).2.1 (e _ _ n m q).2.2 z (RDs.bare e w r)
  | _, _, w, .ref q => by simp [D.rlt] at w
  | _, _, w, .fz n m q z r => .fz (e _ _ n m q).1 (e _ _ n m q).2.1 (e _ _ n m q).2.2 z (RDs.bare e w r)
  | _, _, w, .kfz k z r => .kfz k z (RDs.bare e w r)
  | _, _, w, .ft n m q c d z r => .ft (e _ _ n m q).1 (e _ _ n m q).2.1 (e _ _ n m q).2.2 c d z (RDs.bare e w r)
  | _, _, _, .exc n m q => .exc (e _ _ n m q).1 (e _ _ n m q).2.1 (e _ _ n m q).2.2
  | _, _, w, .exf n m q n2 m2 q2 r => .exf (e _ _ n m q).1 (e _ _ n m q).2.1 (e _ _ n m q).2.2 (e _ _ n2 m2 q2).1 (e _ _ n2 m2 q2).2.1 (e _ _ n2 m2 q2).2.2 (RD.bare e w r)
theorem RDs.bare (e : ∀ a o, a ∉ J.l → a ∉ J.z → H a = some o → a ∉ J'.l ∧ a ∉ J'.z ∧ H' a = some o) : ∀ {ds : List D} {vs : List V}, D.rlts 0 ds = true → RDs K J H ds vs → RDs K J' H' ds vs
  | _, _, _, .nil => .nil
  | _, _, w, .cons r t => by
    simp only [D.rlts, Bool.and_eq_true] at w
    exact .cons (RD.bare e w.1 r) (RDs.bare e w.2 t)
end
theorem atm_any {d : D} {v : V} {J2 : Jn} {H2 : Hp} (h : d.atm = true) (r : RD K J H d v) : RD K J2 H2 d v := by
  cases d with
  | non => cases r; exact .non
  | int i => cases r; exact .int _
  | _ => cases h
theorem paired_at {α β : Type} {Rl : α → β → Prop} : ∀ {xs : List α} {ys : List β} {i : Nat} {y : β}, Paired Rl xs ys → ys[i]? = some y → ∃ x, xs[i]? = some x ∧ Rl x y
  | _, _, _, _, .nil, e => (by simp at e)
  | _, _, 0, _, .cons r _, e => (by simp at e; subst e; exact ⟨_, rfl, r⟩)
  | _, _, i + 1, _, .cons _ t, e => by
    obtain ⟨x, h1, h2⟩ := paired_at (i := i) t (by simpa using e)
    (exact ⟨x, by simpa using h1, h2⟩)
end
section
variable {X : Cx} {elt : Expr} {scope : Scope} {own : List (Str × Nat)} {pos dp apos cp : Pos} {y : Str} {i j : Nat} {pe : P} {tg : Expr}
theorem se_lcv (hc : X.calm = true) (hN : X.N.Nodup) (h1 : X.N[i]? = some y) (h2 : Vis X.env.scope y) (h3 : (y == ("__debug__" : Str)) = false) (h4 : (y == ("__classdict__" : Str)) = false) (ok : BlkOk X.N X.env.scope scope own) (hown : own.map (·.2) = [j])
    (hg : ∀ (s : Shared) (H : Hp) (C : Addr) (cl : List (Str × Addr)) (fp : List Addr), ST (X.blk s H scope (compEnvC scope cl C X.env) fp) tg (.v j) [j])
    (he : ∀ (s : Shared) (H : Hp) (C : Addr) (cl : List (Str × Addr)) (fp : List Addr), PE (X.blk s H scope (compEnvC scope cl C X.env) fp) elt (tG X.K (rD X.K) pe.v)) (hline : (apos.endLine == cp.line) = true) :
    SE X (.ListComp elt [⟨tg, .Call (.Attribute (.Name y dp) "values" apos) [] [] cp, [], 0⟩] scope pos) (.plain fun ρ h => lcvOp pe.v ρ.length j ρ[i]? h) := by
  refine SE.plain ((pe_lock (pe_lc (g := gD X.K (.v j) [j]) (te := tG X.K (rD X.K) pe.v) hc hN (pi_values (pe_var h1 h2 h3 h4) rfl hline) ok (fun s H C cl fp => (hg s H C cl fp).run) (fun s H C cl fp => pts_nil) he (fun _ => rfl))).imp fun σ H Q ⟨ρ, h, J, re, rh, q⟩ => ?_) (fun _ => rfl)
  rw [hown]
  dsimp only at q
  unfold lcvOp at q
  split at q
  · rename_i r hr
    split at q
    · rename_i kvs hk
      split at q
      · rename_i hz
        simp only [Bool.and_eq_true, List.all_eq_true] at hz
        obtain ⟨hz1, hz2⟩ := hz
        obtain ⟨v, hv, rv⟩ := re.get i _ hr
        cases rv with
        | @ref _ d qd =>
        obtain ⟨ob, u, g1, g2, g3⟩ := rh.at qd
        rw [hk] at g1
        cases g1
        cases g3 with
        | @dct _ kws z rr =>
        obtain ⟨dl, hl, q2⟩ := Post.optX q
        obtain ⟨ds, hds, rfl⟩ := Option.map_eq_some_iff.mp hl
        refine ⟨d, _, g2, trivial, fun od => ?_⟩
        refine ⟨.ref d, hv, d, od, kws, rfl, upd_same, fun D nD => ?_⟩
        have hDd : D ≠ d := fun w => by rw [w, upd_same] at nD; cases nD
        have hD : H D = none := by rw [upd_ne hDd] at nD; exact nD
        have klen : kvs.length = kws.length := Paired.length rr
        let W : Nat → Nat → Hp → Prop := fun k m H2 => m = kws.length - k ∧ k ≤ kws.length ∧ ∃ acc vs rest, lcvLoop pe.v ρ.length j ((kvs.map (·.2)).drop k) = some rest ∧ ds = acc ++ rest ∧ H2 D = some (.lst vs) ∧ vs.length = k ∧ (∀ J' H', RDs X.K J' H' acc vs) ∧
          (∀ a o, a ≠ D → (upd H d (.frz od (.dK kws))) a = some o → H2 a = some o)
        refine ⟨W, ⟨kws.length, by simp, Nat.zero_le _, [], [], ds, hds, rfl, upd_same, rfl, fun _ _ => .nil, fun a o ha e => by rw [upd_ne ha]; exact e⟩, fun k m H2 hW => ?_⟩
        obtain ⟨rfl, hk1, acc, vs, rest, hrest, hacc, hHD, hvl, hrd, hkeep⟩ := hW
        have hfz : H2 d = some (.frz od (.dK kws)) := hkeep d _ (Ne.symm hDd) upd_same
        rcases Nat.lt_or_ge k kws.length with hlt | hge
        · have hlt2 : k < (kvs.map (·.2)).length := by rw [List.length_map, klen]; exact hlt
          refine .inr ⟨⟨hfz, hlt⟩, fun H' => ∃ m', m' < kws.length - k ∧ W (k + 1) m' H', fun H' z => z, fun x H3 ⟨e3, kk, hx⟩ => ?_⟩
          subst e3
          obtain ⟨⟨pk, pv⟩, hp, hp1, hp2⟩ := paired_at rr hx
          have hlt3 : k < kvs.length := by rw [klen]; exact hlt
          rw [List.drop_eq_getElem_cons hlt2] at hrest
          have hpe : (kvs.map (·.2))[k] = pv := by
            rw [List.getElem_map]
            rw [List.getElem?_eq_getElem hlt3] at hp
            rw [Option.some.inj hp]
          rw [hpe] at hrest
          unfold lcvLoop at hrest
          split at hrest
          · rename_i xe hx' ev
            split at hrest
            · rename_i hatm
              obtain ⟨rest', hrest', rfl⟩ := Option.map_eq_some_iff.mp hrest
              have hmem : (pk, pv) ∈ kvs := List.mem_of_getElem? hp
              have nz : ∀ a ∈ J.l ++ D :: J.z, H3 a ≠ none := fun a ha => by
                have key : ∀ o, a ≠ D → H a = some o → H3 a ≠ none := fun o hne e => by
                  by_cases w : a = d
                  · subst w; rw [hfz]; simp
                  · rw [hkeep a o hne (by rw [upd_ne w]; exact e)]; simp
                rcases List.mem_append.mp ha with w | w
                · obtain ⟨o, e⟩ := rh.inl w
                  exact key o (fun w2 => by rw [w2, hD] at e; cases e) e
                · rcases List.mem_cons.mp w with w | w
                  · subst w; rw [hHD]; simp
                  · cases e : H a with
                    | none => exact absurd e (rh.zed a w)
                    | some o => exact key o (fun w2 => by rw [w2, hD] at e; cases e) e
              have rh0 : RH X.K ⟨[], J.l ++ D :: J.z⟩ [] H3 := ⟨List.nodup_nil, rfl, fun n o e => by simp at e, fun a _ w => (by cases w), nz, fun n P q e => by simp at e⟩
              have rd0 : RD X.K ⟨[], J.l ++ D :: J.z⟩ H3 pv x := RD.bare (fun a o n m e => by
                have hne : a ≠ D := fun w => by rw [w, hD] at e; cases e
                have hne2 : a ≠ d := fun w => n (w ▸ List.mem_of_getElem? qd)
                refine ⟨fun w => (by cases w), fun w => ?_, hkeep a o hne (by rw [upd_ne hne2]; exact e)⟩
                rcases List.mem_append.mp w with w | w
                · exact n w
                · rcases List.mem_cons.mp w with w | w
                  · exact hne w
                  · exact m w) (hz2 _ hmem) hp2
              have re0 : RE X.K ⟨[], J.l ++ D :: J.z⟩ H3 (List.replicate ρ.length none) (wipe σ [j]) := ⟨by rw [List.length_replicate, wipe_length]; exact re.len, fun n dd e => by
                rw [List.getElem?_replicate] at e
                split at e <;> cases e⟩
              refine ⟨_, _, [], _, pv, re0, rh0, rd0, rfl, fun σ2 re4 hk4 hl4 => ⟨wipe_same hk4 hl4, ?_⟩⟩
              refine ⟨_, [], _, re4, rh0, ?_⟩
              rw [ev]
              intro J5 H5 yv e5 rh5 ry
              have k5 : ∀ a o, H3 a = some o → H5 a = some o := fun a o e => e5.keep a o (fun w => by cases w) e
              refine ⟨vs, k5 D _ hHD, ?_, _, ?_, rfl, hlt, acc ++ [xe], vs ++ [yv], rest', ?_, by rw [hacc, List.append_assoc]; rfl, upd_same, by simp [hvl], fun J' H' => (hrd J' H').append (.cons (atm_any hatm ry) .nil), fun a o ha e => by rw [upd_ne ha]; exact k5 a o (hkeep a o ha e)⟩
              · have := size_of hz1; omega
              · omega
              · exact hrest'
            · cases hrest
          · cases hrest
        · have hke : k = kws.length := Nat.le_antisymm hk1 hge
          subst hke
          rw [List.drop_eq_nil_of_le (by rw [List.length_map, klen]; exact Nat.le_refl _)] at hrest
          cases hrest
          rw [List.append_nil] at hacc
          subst hacc
          refine .inl ⟨⟨hfz, Nat.le_refl _⟩, hfz, ?_⟩
          have fact : ∀ a o, H a = some o → upd H2 d (.dK kws) a = some o := fun a o e => by
            by_cases w : a = d
            · subst w; rw [upd_same, ← g2]; exact e
            · rw [upd_ne w]
              exact hkeep a o (fun w2 => by rw [w2, hD] at e; cases e) (by rw [upd_ne w]; exact e)
          have ex : Ext J H J (upd H2 d (.dK kws)) := ⟨rfl, ⟨[], by simp, by simp⟩, fun a o _ e => fact a o e⟩
          refine q2 J _ _ ex ⟨rh.nd, rh.len, fun n o e => ?_, rh.apart, fun a ha w => ?_, rh.tbs⟩ (.lst (rh.notin hD) (rh.notz hD) (by rw [upd_ne hDd]; exact hHD) (by rw [hvl]; exact z) (hrd _ _))
          · obtain ⟨a, u, x1, x2, x3⟩ := rh.obj n o e
            exact ⟨a, u, x1, fact a u x2, x3.ext ex⟩
          · cases e : H a with
            | none => exact rh.zed a ha e
            | some o => rw [fact a o e] at w; cases w
      · exact False.elim q
    · exact False.elim q
  · exact False.elim q
end
end PV
end

section
set_option maxRecDepth 100000
namespace PV
open L2 PySem PySem.Spec PyProof.Rows

/-! ### a text read as E -/
def relabelS (scope sc : Scope) : Scope :=
  { scope with names := scope.names.map fun (n, k) =>
      if (k == .free && sc.kind == .function && sc.names.lookup n == some .cell) then (n, .cell) else (n, k) }
def Cs.blk (c : Cs) (scope : Scope) : Cs := { c with sc := relabelS scope c.sc, fn := fun x => scope.names.lookup x == some .cell, lq := "" }
def Cs.own (c : Cs) (t : Tg) : List (Str × Nat) := t.slots.map fun i => (c.N.getD i "", i)
def Cs.blt (c : Cs) (x : Str) : Bool := decide (x ∈ c.bs) && c.glb x
/-- a name that is set -/
def mV (c : Cs) (i : Nat) (x : Expr) : Bool := match asName x with
  | some y => c.loc i y
  | none => false
def mVs (c : Cs) : List Nat → List Expr → Bool
  | [], [] => true
  | i :: is, x :: xs => mV c i x && mVs c is xs
  | _, _ => false
def mT (c : Cs) : Tg → Expr → Bool
  | .v i, x => mV c i x
  | .tu is, x => match asTup x with
    | some xs => mVs c is xs
    | none => false
def asDcl : Expr → Option (Expr × Expr × Expr × Expr × List Expr × Scope)
  | .DictComp kx vx [⟨tg, iter, ifs, a⟩] scope _ => if a = 0 then some (kx, vx, tg, iter, ifs, scope) else none
  | _ => none
theorem asDcl_eq {e kx vx tg iter : Expr} {ifs : List Expr} {scope : Scope} (h : asDcl e = some (kx, vx, tg, iter, ifs, scope)) : ∃ p, e = .DictComp kx vx [⟨tg, iter, ifs, 0⟩] scope p := by
  unfold asDcl at h
  split at h
  · split at h
    · rename_i ha; cases h; subst ha; exact ⟨_, rfl⟩
    · cases h
  · cases h
/-- d.values() -/
def asVals : Expr → Option Str
  | .Call (.Attribute (.Name y _) m ap) [] [] cp => if m = "values" ∧ (ap.endLine == cp.line) = true then some y else none
  | _ => none
theorem asVals_eq {e : Expr} {y : Str} (h : asVals e = some y) : ∃ dp ap cp, e = .Call (.Attribute (.Name y dp) "values" ap) [] [] cp ∧ (ap.endLine == cp.line) = true := by
  unfold asVals at h
  split at h
  · split at h
    · rename_i ha
      cases h
      obtain ⟨rfl, hl⟩ := ha
      exact ⟨_, _, _, rfl, hl⟩
    · cases h
  · cases h
mutual
def mE (c : Cs) : E → Expr → Bool
  | .var i, x => match asName x with | some y => c.vis i y | none => false
  | .con d, x => match asCon x with | some k => conM d k | none => false
  | .glo i, x => match asName x with | some y => decide (c.gn[i]? = some y) && c.glb y | none => false
  | .miss, _ => false
  | .tup es, x => match asTup x with | some xs => mEs c es xs | none => false
  | .ftup es, x => match asTup x with | some xs => mEs c es xs | none => false
  | .lst es, x => match asLst x with | some xs => mEs c es xs | none => false
  | .new e, x => mF c e x
  | .dic0, x => asDic0 x
  | .bin o a b, x => match asBin x with | some (y, p, z) => bopM o p && mE c a y && mE c b z | none => false
  | .neg a, x => match asUn x with | some (.USub, y) => mE c a y | _ => false
  | .cmp o a b, x => match asCmp1 x with | some (y, p, z) => copM o p && plainX z && mE c a y && mE c b z | none => false
  | .chain o o' a b d, x => match asCmp2 x with | some (y, p, p', z, w) => copM o p && copM o' p' && plainX w && mE c a y && mE c b z && mE c d w | none => false
  | .and a r, x => match asBool x with | some (.And, y, ys) => mE c a y && mEs c r ys && !ys.isEmpty | _ => false
  | .or a r, x => match asBool x with | some (.Or, y, ys) => mE c a y && mEs c r ys && !ys.isEmpty | _ => false
  | .not a, x => match asUn x with | some (.Not, y) => mE c a y | _ => false
  | .ite t a b, x => match asIf x with | some (w, y, z) => mE c t w && mE c a y && mE c b z | none => false
  | .idx a i, x => match asSub x with | some (y, z) => plainX z && mE c a y && mE c i z | none => false
  | .slc a lo hi, x => match asSub x with
    | some (y, z) => match asSlc z with
      | some (l, u) => mE c a y && (match l with | none => lo.isMiss | some l => !lo.isMiss && mE c lo l) && (match u with | none => hi.isMiss | some u => !hi.isMiss && mE c hi u)
      | none => false
    | none => false
  | .call f es, x => match asCall x with
    | some (y, xs) => match c.T[f]? with
      | some fn => (!c.hot || decide (f ∈ c.qt)) && decide (fn.name = y) && decide (fn.P.length = xs.length) && c.glb y && plainXs xs && mEs c es xs
      | none => false
    | none => false
  | .callK f es kes pm, x => match coolO c (asCallK x) with
    | some (y, xs, kws) => match c.T[f]? with
      | some fn => decide (fn.name = y) && decide ((xs.length, kwNms kws, pm) ∈ fn.kw) && kwAll kws && decide ((kwNms kws).length = kws.length) && c.glb y && plainXs xs && mEs c es xs && mEs c kes (kws.map (·.value))
      | none => false
    | none => false
  | .bf f es, x => match coolO c (asCall x) with
    | some (y, xs) => decide (y = bfNm f) && c.blt y && !xs.isEmpty && plainXs xs && mEs c es xs && (bfOn f || match f with | .list => true | _ => false)
    | none => false
  | .isi a t, x => match asIsi x with
    | some (f, y, ty) => decide (f = "isinstance") && (match t with | .non => false | _ => true) && decide (ty = tyNm t) && c.blt f && c.blt ty && plainX y && mE c a y
    | none => false
  | .mth m o es, x => match asMth x with
    | some (y, nm, xs) => decide (nm = mtNm m) && (mtOn m || (mtIx m && !xs.isEmpty)) && baseX y && plainXs xs && decide (xs.length < 30) && mE c o y && mEs c es xs
    | none => false
  | .lc t it d e, x => match coolO c (asLc x) with
    | some (elt, tg, iter, ifs, scope) => blkC c.N c.sc scope (c.own t) && mI c it tg iter && plainX iter && mT (c.blk scope) t tg && mE (c.blk scope) e elt && (match ifs with
      | [] => d.isMiss
      | [i] => mE (c.blk scope) d i
      | _ => false)
    | none => false
  | .tenum a, x => match coolO c (asTenum x) with
    | some (f, g, y) => decide (f = "tuple") && decide (g = "enumerate") && c.blt f && c.blt g && plainX y && mE c a y
    | none => false
  | .sset a, x => match coolO c (asTenum x) with
    | some (f, g, y) => decide (f = "sorted") && decide (g = "set") && c.blt f && c.blt g && plainX y && mE c a y
    | none => false
  | .dcl t it d k v, x => match coolO c (asDcl x) with
    | some (kx, vx, tg, iter, ifs, scope) => blkC c.N c.sc scope (c.own t) && mI c it tg iter && plainX iter && mT (c.blk scope) t tg && mE (c.blk scope) k kx && mE (c.blk scope) v vx && (match ifs with
      | [] => d.isMiss
      | [i] => mE (c.blk scope) d i
      | _ => false)
    | none => false
  | .trng a, x => match coolO c (asTenum x) with
    | some (f, g, y) => decide (f = "tuple") && decide (g = "range") && c.blt f && c.blt g && plainX y && mE c a y
    | none => false
  | .isi2 a, x => match asIsi2 x with
    | some (f, y, t1, t2) => decide (f = "isinstance") && decide (t1 = "tuple") && decide (t2 = "list") && c.blt f && c.blt t1 && c.blt t2 && plainX y && mE c a y
    | none => false
  | .isx a k yes no, x => match asIsi x with
    | some (f, y, ty) => decide (f = "isinstance") && decide (ty = k) && c.blt f && c.glb k && c.xn k && plainX y && mE c a y && (yes.all fun z => decide ((z, k, true) ∈ c.xm.i)) && (no.all fun z => decide ((z, k, false) ∈ c.xm.i))
    | none => false
  | .fld a f ks, x => match asFld x with
    | some (y, g) => decide (g = f) && baseX y && mE c a y && (ks.all fun z => decide ((z, f) ∈ c.xm.f))
    | none => false
  | .mkf y f k a, x => if k then (match coolO c (asMkfK x) with
      | some (y2, g2, z, g) => decide (y2 = y) && decide (g2 = f) && decide (g = f) && decide ((y, f) ∈ c.xg) && decide (("super" : Str) ∈ c.bs) && c.glb y && mE c a z
      | none => false)
    else match coolO c (asMkf x) with
      | some (y2, z, g) => decide (y2 = y) && decide (g = f) && decide ((y, f) ∈ c.xg) && decide (("super" : Str) ∈ c.bs) && c.glb y && plainX z && mE c a z
      | none => false
  | .isv a yes, x => match asIsi x with
    | some (f, y, ty) => decide (f = "isinstance") && decide (ty = "ValueError") && c.blt f && c.blt ty && plainX y && mE c a y && (yes.all fun z => decide (z ∈ c.xm.v))
    | none => false
  | .srtK a q, x => match coolO c (asSrtK x) with
    | some (y, v, params, scope) => decide (q = c.lq) && decide (c.lq ≠ "") && lamB v params scope && c.blt "sorted" && plainX y && mE c a y
    | none => false
  | .lcv j i e, x => match coolO c (asLc x) with
    | some (elt, tg, iter, ifs, scope) => (match asVals iter with
      | some y => c.vis i y
      | none => false) && ifs.isEmpty && blkC c.N c.sc scope (c.own (.v j)) && mT (c.blk scope) (.v j) tg && mE (c.blk scope) e elt
    | none => false
  | .dpop o k, x => match asMth x with
    | some (y, nm, xs) => decide (nm = "pop") && baseX y && (match xs with
      | [z] => plainX z && mE c k z
      | _ => false) && mE c o y
    | none => false
  | .lrg _, _ => false
  | .bad, _ => true
def mF (c : Cs) : E → Expr → Bool
  | .lst es, x => match asLst x with | some xs => mEs c es xs | none => false
  | .bf .list es, x => match coolO c (asCall x) with
    | some (y, xs) => decide (y = "list") && c.blt y && !xs.isEmpty && plainXs xs && mEs c es xs
    | none => false
  | .lc t it d e, x => match coolO c (asLc x) with
    | some (elt, tg, iter, ifs, scope) => blkC c.N c.sc scope (c.own t) && mI c it tg iter && plainX iter && mT (c.blk scope) t tg && mE (c.blk scope) e elt && (match ifs with
      | [] => d.isMiss
      | [i] => mE (c.blk scope) d i
      | _ => false)
    | none => false
  | .sset a, x => match coolO c (asTenum x) with
    | some (f, g, y) => decide (f = "sorted") && decide (g = "set") && c.blt f && c.blt g && plainX y && mE c a y
    | none => false
  | .lrg a, x => match coolO c (asTenum x) with
    | some (f, g, y) => decide (f = "list") && decide (g = "range") && c.blt f && c.blt g && plainX y && mE c a y
    | none => false
  | _, _ => false
def mEs (c : Cs) : Es → List Expr → Bool
  | .nil, [] => true
  | .cons e es, x :: xs => plainX x && mE c e x && mEs c es xs
  | _, _ => false
def mI (c : Cs) : I → Expr → Expr → Bool
  | .ev e, _, x => mE c e x
  | .rng n, _, x => match asCall x with
    | some (f, [y]) => decide (f = "range") && c.blt f && plainX y && mE c n y
    | _ => false
  | .rng2 a b, _, x => match asCall x with
    | some (f, [y, z]) => decide (f = "range") && c.blt f && plainX y && plainX z && mE c a y && mE c b z
    | _ => false
  | .zip a b, tg, x => match asCall x with
    | some (f, [y, z]) => decide (f = "zip") && c.blt f && plainX y && plainX z && mE c a y && mE c b z && (asTup tg).isSome
    | _ => false
  | .enum a, tg, x => match asCall x with
    | some (f, [y]) => decide (f = "enumerate") && c.blt f && plainX y && mE c a y && (asTup tg).isSome
    | _ => false
end
end PV
end

section
set_option maxRecDepth 100000
set_option maxHeartbeats 1900000
namespace PV
open L2 PySem PySem.Spec PyProof.Rows
section
variable {c : Cs} {F : Fns} {G : List D} {X : Cx}
theorem Ok.blk (o : Ok c F G X) {s : Shared} {H : Hp} {scope : Scope} {cl : List (Str × Addr)} {C : Addr} {fp : List Addr} : Ok (c.blk scope) F G (X.blk s H scope (compEnvC scope cl C X.env) fp) where
  hN := o.hN
  nd := o.nd
  sc := by
    show relabel scope X.env = relabelS scope c.sc
    unfold relabel relabelS PySem.Env.kindOf
    rw [o.sc]
  fn := rfl
  calm := o.calm
  call := fun h => ⟨(o.call h).ok⟩
  quiet := ⟨o.quiet.ok⟩
  blt := o.blt
  glo := o.glo
  exc := o.exc
  exm := o.exm
  gate := o.gate
  lam := fun h => absurd rfl h
theorem blt_ok {y : Str} (h : c.blt y = true) : y ∈ c.bs ∧ c.glb y = true := by
  simp only [Cs.blt, Bool.and_eq_true, decide_eq_true_eq] at h; exact h
theorem own_snd (t : Tg) : (c.own t).map (·.2) = t.slots := by simp [Cs.own, Function.comp_def]
theorem sv_ok {i : Nat} {x : Expr} (o : Ok c F G X) (h : mV c i x = true) : ∃ y p, x = .Name y p ∧ X.N[i]? = some y ∧ L2.Loc X.env.scope y ∧ (X.fn y = true ∨ X.env.scope.names.lookup y = some .local) := by
  unfold mV at h
  split at h
  · rename_i y hy
    obtain ⟨p, rfl⟩ := asName_eq hy
    obtain ⟨h1, h2, h3⟩ := loc_ok o h
    exact ⟨y, p, rfl, h1, h2, h3⟩
  · cases h
theorem svs_ok (o : Ok c F G X) : ∀ {is : List Nat} {xs : List Expr}, mVs c is xs = true → STs X xs is
  | [], [], _ => sts_nil
  | [], _ :: _, h => by cases h
  | _ :: _, [], h => by cases h
  | i :: is, x :: xs, h => by
    simp only [mVs, Bool.and_eq_true] at h
    obtain ⟨y, p, rfl, h1, h2, h3⟩ := sv_ok o h.1
    exact sts_cons o.nd h1 h2 h3 (svs_ok o h.2)
theorem st_ok (o : Ok c F G X) (hc0 : c.hot = false) {t : Tg} {x : Expr} (h : mT c t x = true) : ST X x t t.slots := by
  cases t with
  | v i =>
    obtain ⟨y, p, rfl, h1, h2, h3⟩ := sv_ok o (show mV c i x = true from h)
    exact st_v o.nd h1 h2 h3
  | tu is =>
    simp only [mT] at h
    split at h
    · rename_i xs hx
      obtain ⟨k, p, rfl⟩ := asTup_eq hx
      exact st_tu (o.calm hc0) (svs_ok o h)
    · cases h
def Es.len : Es → Nat
  | .nil => 0
  | .cons _ es => es.len + 1
theorem es_len : ∀ (es : Es) (ρ : Env) (h : Hh) (ds : List D) (h' : Hh), (evEs F G es).l ρ h = .ok ds h' → ds.length = es.len
  | .nil, ρ, h, ds, h', e => by cases e; rfl
  | .cons a es, ρ, h, ds, h', e => by
    have e : ((evE F G a).v ρ h).bind (fun x h1 => ((evEs F G es).l ρ h1).bind fun xs h2 => .ok (x :: xs) h2) = .ok ds h' := e
    cases e1 : (evE F G a).v ρ h with
    | ok x h1 =>
      rw [e1, R.bind_ok] at e
      cases e2 : (evEs F G es).l ρ h1 with
      | ok xs h2 =>
        rw [e2, R.bind_ok] at e
        cases e
        show xs.length + 1 = es.len + 1
        rw [es_len es _ _ _ _ e2]
      | bad => rw [e2] at e; cases e
      | err _ _ => rw [e2] at e; cases e
    | bad => rw [e1] at e; cases e
    | err _ _ => rw [e1] at e; cases e
theorem mEs_len : ∀ {es : Es} {xs : List Expr}, mEs c es xs = true → es.len = xs.length
  | .nil, [], _ => rfl
  | .nil, _ :: _, h => by cases h
  | .cons _ _, [], h => by cases h
  | .cons e es, x :: xs, h => by
    simp only [mEs, Bool.and_eq_true] at h
    show es.len + 1 = xs.length + 1
    rw [mEs_len h.2]
theorem mEs_nil {es : Es} {xs : List Expr} (h : mEs c es xs = true) : xs = [] → (evEs F G es).l = fun _ h => .ok [] h := by
  rintro rfl
  cases es with
  | nil => rfl
  | cons _ _ => cases h
/-- a list made anew -/
def SF (X : Cx) (x : Expr) (v : Env → Hh → R D) : Prop := PE X x (tF X.K v) ∧ ∀ whole, isTrue x X.env whole = (do let v ← whole; standAt x.pos; holding [v] (truthy v))
mutual
theorem sE : ∀ (t : E) {c : Cs} {X : Cx} (o : Ok c F G X) (x : Expr), mE c t x = true → SE X x (evE F G t)
  | .var i, c, X, o, x, h => by
    simp only [mE] at h
    split at h
    · rename_i y hy
      obtain ⟨p, rfl⟩ := asName_eq hy
      exact se_var o h
    · cases h
  | .con d, c, X, o, x, h => by
    simp only [mE] at h
    split at h
    · rename_i y hy
      obtain ⟨k, p, rfl⟩ := asCon_eq hy
      exact se_con h
    · cases h
  | .glo i, c, X, o, x, h => by
    simp only [mE] at h
    split at h
    · rename_i y hy
      obtain ⟨p, rfl⟩ := asName_eq hy
      (simp only [Bool.and_eq_true, decide_eq_true_eq] at h)
      exact se_glo o h.1 h.2
    · cases h
  | .miss, c, X, o, x, h => by cases h
  | .tup es, c, X, o, x, h => by
    simp only [mE] at h
    split at h
    · rename_i y hy
      obtain ⟨k, p, rfl⟩ := asTup_eq hy
      exact se_tup (sEs es o _ h)
    · cases h
  | .ftup es, c, X, o, x, h => by
    simp only [mE] at h
    split at h
    · rename_i y hy
      obtain ⟨k, p, rfl⟩ := asTup_eq hy
      exact se_ftup (sEs es o _ h)
    · cases h
  | .lst es, c, X, o, x, h => by
    simp only [mE] at h
    split at h
    · rename_i y hy
      obtain ⟨p, rfl⟩ := asLst_eq hy
      exact se_lst (sEs es o _ h)
    · cases h
  | .new e, c, X, o, x, h => se_new (sF e o x h).1 (sF e o x h).2
  | .dic0, c, X, o, x, h => by
    obtain ⟨p, rfl⟩ := asDic0_eq h
    exact se_dic0
  | .bin op a b, c, X, o, x, h => by
    simp only [mE] at h
    split at h
    · rename_i y p z hy
      obtain ⟨q, rfl⟩ := asBin_eq hy
      (simp only [Bool.and_eq_true] at h)
      exact se_bin' (bopM_ok h.1.1) (sE a o _ h.1.2) (sE b o _ h.2)
    · cases h
  | .neg a, c, X, o, x, h => by
    simp only [mE] at h
    split at h
    · rename_i y hy
      obtain ⟨q, rfl⟩ := asUn_eq hy
      exact se_neg (sE a o _ h)
    · cases h
  | .cmp op a b, c, X, o, x, h => by
    simp only [mE] at h
    split at h
    · rename_i y p z hy
      obtain ⟨q, rfl⟩ := asCmp1_eq hy
      (simp only [Bool.and_eq_true] at h)
      exact se_cmp' (copM_ok o.units h.1.1.1) h.1.1.2 (sE a o _ h.1.2) (sE b o _ h.2)
    · cases h
  | .chain op op' a b d, c, X, o, x, h => by
    simp only [mE] at h
    split at h
    · rename_i y p p' z w hy
      obtain ⟨q, rfl⟩ := asCmp2_eq hy
      (simp only [Bool.and_eq_true] at h)
      exact se_chain (copM_ok o.units h.1.1.1.1.1) (copM_ok o.units h.1.1.1.1.2) h.1.1.1.2 (sE a o _ h.1.1.2) (sE b o _ h.1.2) (sE d o _ h.2)
    · cases h
  | .and a r, c, X, o, x, h => by
    simp only [mE] at h
    split at h
    · rename_i y ys hy
      obtain ⟨q, rfl⟩ := asBool_eq hy
      (simp only [Bool.and_eq_true, Bool.not_eq_true'] at h)
      exact se_and (sE a o _ h.1.1) (sEs r o _ h.1.2) h.2
    · cases h
  | .or a r, c, X, o, x, h => by
    simp only [mE] at h
    split at h
    · rename_i y ys hy
      obtain ⟨q, rfl⟩ := asBool_eq hy
      (simp only [Bool.and_eq_true, Bool.not_eq_true'] at h)
      exact se_or (sE a o _ h.1.1) (sEs r o _ h.1.2) h.2
    · cases h
  | .not a, c, X, o, x, h => by
    simp only [mE] at h
    split at h
    · rename_i y hy
      obtain ⟨q, rfl⟩ := asUn_eq hy
      exact se_not (sE a o _ h)
    · cases h
  | .ite t a b, c, X, o, x, h => by
    simp only [mE] at h
    split at h
    · rename_i y p z hy
      obtain ⟨q, rfl⟩ := asIf_eq hy
      (simp only [Bool.and_eq_true] at h)
      exact se_ite (sE t o _ h.1.1) (sE a o _ h.1.2) (sE b o _ h.2)
    · cases h
  | .idx a i, c, X, o, x, h => by
    simp only [mE] at h
    split at h
    · rename_i y z hy
      obtain ⟨q, rfl⟩ := asSub_eq hy
      (simp only [Bool.and_eq_true] at h)
      exact se_idx o.units h.1.1 (sE a o _ h.1.2) (sE i o _ h.2)
    · cases h
  | .slc a lo hi, c, X, o, x, h => by
    simp only [mE] at h
    split at h
    · rename_i y z hy
      obtain ⟨q, rfl⟩ := asSub_eq hy
      split at h
      · rename_i l u hz
        obtain ⟨sp, rfl⟩ := asSlc_eq hz
        (simp only [Bool.and_eq_true] at h)
        obtain ⟨⟨h1, h2⟩, h3⟩ := h
        refine se_slc (sE a o _ h1) ?_ ?_
        · cases l with
          | none => have h2 : lo.isMiss = true := h2; rw [h2]; exact so_none
          | some l =>
            have h2 : (!lo.isMiss && mE c lo l) = true := h2
            simp only [Bool.and_eq_true, Bool.not_eq_true'] at h2
            rw [h2.1]; exact so_some (sE lo o _ h2.2)
        · cases u with
          | none => have h3 : hi.isMiss = true := h3; rw [h3]; exact so_none
          | some u =>
            have h3 : (!hi.isMiss && mE c hi u) = true := h3
            simp only [Bool.and_eq_true, Bool.not_eq_true'] at h3
            rw [h3.1]; exact so_some (sE hi o _ h3.2)
      · cases h
    · cases h
  | .call f es, c, X, o, x, h => by
    simp only [mE] at h
    split at h
    · rename_i y xs hy
      obtain ⟨p, q, rfl⟩ := asCall_eq hy
      split at h
      · rename_i fn hf
        simp only [Bool.and_eq_true, decide_eq_true_eq, Bool.or_eq_true, Bool.not_eq_true'] at h
        obtain ⟨⟨⟨⟨⟨hq, h1⟩, h2⟩, h3⟩, h4⟩, h5⟩ := h
        rcases hq with hc0 | hq
        rotate_left
        · exact se_callQ o hq hf h1 h3 h4 (mEs_nil h5) (fun ρ h0 ds h' e => by rw [es_len es _ _ _ _ e, mEs_len h5, h2]) (sEs es o _ h5)
        exact se_call o hc0 hf h1 h3 h4 (mEs_nil h5) (fun ρ h0 ds h' e => by rw [es_len es _ _ _ _ e, mEs_len h5, h2]) (sEs es o _ h5)
      · cases h
    · cases h
  | .callK f es kes pm, c, X, o, x, h => by
    simp only [mE] at h
    split at h
    · rename_i y xs kws hy
      obtain ⟨hc0, hy⟩ := coolO_eq hy
      obtain ⟨p, q, rfl⟩ := asCallK_eq hy
      split at h
      · rename_i fn hf
        (simp only [Bool.and_eq_true, decide_eq_true_eq] at h)
        (obtain ⟨⟨⟨⟨⟨⟨⟨h1, h2⟩, h3⟩, h4⟩, h5⟩, h6⟩, h7⟩, h8⟩ := h)
        exact se_callK o hc0 hf h1 h5 h6 h2 (mEs_nil h7) (fun ρ h0 ds h' e => by rw [es_len es _ _ _ _ e, mEs_len h7]) (fun ρ h0 ds h' e => by rw [es_len kes _ _ _ _ e, mEs_len h8, h4, List.length_map]) h3 (sEs es o _ h7) (sEs kes o _ h8)
      · cases h
    · cases h
  | .bf f es, c, X, o, x, h => by
    simp only [mE] at h
    split at h
    · rename_i y xs hy
      obtain ⟨hc0, hy⟩ := coolO_eq hy
      obtain ⟨p, q, rfl⟩ := asCall_eq hy
      simp only [Bool.and_eq_true, decide_eq_true_eq, Bool.not_eq_true'] at h
      obtain ⟨⟨⟨⟨⟨h1, h2⟩, h3⟩, h4⟩, h5⟩, h6⟩ := h
      subst h1
      obtain ⟨e, es', rfl⟩ := isEmpty_cons_false h3
      cases hb : bfOn f with
      | true => exact se_bf hb o hc0 (blt_ok h2).1 (blt_ok h2).2 h4 (sEs es o _ h5)
      | false =>
        rw [hb] at h6
        cases f with
        | list => exact se_list o (blt_ok h2).1 (blt_ok h2).2 h4 (sEs es o _ h5)
        | _ => cases h6
    · cases h
  | .isi a t, c, X, o, x, h => by
    simp only [mE] at h
    split at h
    · rename_i f y ty hy
      obtain ⟨p, q, r, rfl⟩ := asIsi_eq hy
      (simp only [Bool.and_eq_true, decide_eq_true_eq] at h)
      (obtain ⟨⟨⟨⟨⟨⟨h1, h2⟩, h3⟩, h4⟩, h5⟩, h6⟩, h7⟩ := h)
      subst h1
      exact se_isi (by rintro rfl; cases h2) h3 o (blt_ok h4).1 (blt_ok h4).2 (blt_ok h5).1 (blt_ok h5).2 h6 (sE a o _ h7)
    · cases h
  | .isi2 a, c, X, o, x, h => by
    simp only [mE] at h
    split at h
    · rename_i f y t1 t2 hy
      obtain ⟨p, q, r, k, tp, z, rfl⟩ := asIsi2_eq hy
      (simp only [Bool.and_eq_true, decide_eq_true_eq] at h)
      (obtain ⟨⟨⟨⟨⟨⟨⟨h1, h2⟩, h3⟩, h4⟩, h5⟩, h6⟩, h7⟩, h8⟩ := h)
      subst h1 h2 h3
      exact se_isi2 o (blt_ok h4) (blt_ok h5) (blt_ok h6) h7 (sE a o _ h8)
    · cases h
  | .isx a k yes no, c, X, o, x, h => by
    simp only [mE] at h
    split at h
    · rename_i f y ty hy
      obtain ⟨p, q, r, rfl⟩ := asIsi_eq hy
      (simp only [Bool.and_eq_true, decide_eq_true_eq, List.all_eq_true] at h)
      (obtain ⟨⟨⟨⟨⟨⟨⟨⟨h1, h2⟩, h3⟩, h4⟩, h5⟩, h6⟩, h7⟩, h8⟩, h9⟩ := h)
      subst h1 h2
      exact se_isx o (blt_ok h3) h4 h5 h6 h8 h9 (sE a o _ h7)
    · cases h
  | .fld a f ks, c, X, o, x, h => by
    simp only [mE] at h
    split at h
    · rename_i y g hy
      obtain ⟨p, rfl⟩ := asFld_eq hy
      (simp only [Bool.and_eq_true, decide_eq_true_eq, List.all_eq_true] at h)
      (obtain ⟨⟨⟨h1, h2⟩, h3⟩, h4⟩ := h)
      subst h1
      exact se_fld o.exm h2 h4 (sE a o _ h3)
    · cases h
  | .mkf k f b a, c, X, o, x, h => by
    simp only [mE] at h
    split at h
    · split at h
      · rename_i y2 g2 z g hy
        obtain ⟨hc0, hy⟩ := coolO_eq hy
        obtain ⟨p, kp, q, r, rfl⟩ := asMkfK_eq hy
        (simp only [Bool.and_eq_true, decide_eq_true_eq] at h)
        (obtain ⟨⟨⟨⟨⟨⟨h1, h2⟩, h3⟩, h4⟩, h5⟩, h6⟩, h8⟩ := h)
        subst h1 h2 h3
        exact se_mkfK o hc0 h4 h5 h6 (sE a o _ h8)
      · cases h
    · split at h
      · rename_i y2 z g hy
        obtain ⟨hc0, hy⟩ := coolO_eq hy
        obtain ⟨p, q, r, rfl⟩ := asMkf_eq hy
        (simp only [Bool.and_eq_true, decide_eq_true_eq] at h)
        (obtain ⟨⟨⟨⟨⟨⟨h1, h2⟩, h4⟩, h5⟩, h6⟩, h7⟩, h8⟩ := h)
        subst h1 h2
        exact se_mkf o hc0 h4 h5 h6 h7 (sE a o _ h8)
      · cases h
  | .isv a yes, c, X, o, x, h => by
    simp only [mE] at h
    split at h
    · rename_i f y ty hy
      obtain ⟨p, q, r, rfl⟩ := asIsi_eq hy
      (simp only [Bool.and_eq_true, decide_eq_true_eq, List.all_eq_true] at h)
      (obtain ⟨⟨⟨⟨⟨⟨h1, h2⟩, h3⟩, h4⟩, h5⟩, h6⟩, h7⟩ := h)
      subst h1 h2
      exact se_isv o (blt_ok h3) (blt_ok h4) h5 h7 (sE a o _ h6)
    · cases h
  | .bad, c, X, o, x, h => se_bad
  | .lrg _, c, X, o, x, h => by cases h
  | .srtK a q, c, X, o, x, h => by
    simp only [mE] at h
    split at h
    · rename_i y v params scope hy
      obtain ⟨hc0, hy⟩ := coolO_eq hy
      obtain ⟨p1, p2, k, p3, p4, p5, p6, p7, rfl⟩ := asSrtK_eq hy
      (simp only [Bool.and_eq_true, decide_eq_true_eq] at h)
      (obtain ⟨⟨⟨⟨⟨h1, h2⟩, h3⟩, h4⟩, h5⟩, h6⟩ := h)
      subst h1
      exact se_srtK o hc0 h2 (blt_ok h4).1 (blt_ok h4).2 h3 h5 (sE a o _ h6)
    · cases h
  | .lcv j i e, c, X, o, x, h => by
    simp only [mE] at h
    split at h
    · rename_i elt tg iter ifs scope hy
      obtain ⟨hc0, hy⟩ := coolO_eq hy
      obtain ⟨p, rfl⟩ := asLc_eq hy
      (simp only [Bool.and_eq_true] at h)
      obtain ⟨⟨⟨⟨h1, h2⟩, h3⟩, h4⟩, h5⟩ := h
      split at h1
      · rename_i y hv
        obtain ⟨dp, ap, cp, rfl, hl⟩ := asVals_eq hv
        obtain ⟨g1, g2, g3, g4⟩ := vis_ok o h1
        obtain rfl : ifs = [] := by simpa using h2
        exact se_lcv (pe := evE F G e) (o.calm hc0) o.nd g1 g2 g3 g4 (blkOk_by (by rw [o.hN, o.sc]; exact h3)) (own_snd (.v j)) (fun s H C cl fp => st_ok o.blk hc0 h4) (fun s H C cl fp => (sE e o.blk _ h5).v) hl
      · cases h1
    · cases h
  | .dpop a k, c, X, o, x, h => by
    simp only [mE] at h
    split at h
    · rename_i y nm xs hy
      obtain ⟨p, q, rfl, hl⟩ := asMth_eq hy
      (simp only [Bool.and_eq_true, decide_eq_true_eq] at h)
      (obtain ⟨⟨⟨h1, h2⟩, h3⟩, h4⟩ := h)
      subst h1
      split at h3
      · rename_i z
        simp only [Bool.and_eq_true] at h3
        have hp : plainXs [z] = true := by simp [plainXs, h3.1]
        exact se_dpop (m := ⟨base_of h2, few_of _ _ hp (by simp), hl, by rw [plain_star h3.1]; rfl⟩) (sE a o _ h4) (sE k o _ h3.2)
      · cases h3
    · cases h
  | .mth m a es, c, X, o, x, h => by
    simp only [mE] at h
    split at h
    · rename_i y nm xs hy
      obtain ⟨p, q, rfl, hl⟩ := asMth_eq hy
      (simp only [Bool.and_eq_true, decide_eq_true_eq] at h)
      (obtain ⟨⟨⟨⟨⟨⟨h1, h2⟩, h3⟩, h4⟩, h5⟩, h6⟩, h7⟩ := h)
      subst h1
      have s1 := sE a o _ h6
      have s2 := sEs es o _ h7
      rw [Bool.or_eq_true] at h2
      rcases h2 with h2 | h2
      · have z := se_mth h2 h3 hl h4 h5 (mEs_nil h7) s1 s2
        cases m <;> first | exact z | cases h2
      · rw [Bool.and_eq_true] at h2
        cases m <;> first | cases h2.1 | skip
        cases xs with
        | nil => cases h2.2
        | cons e0 xs => exact se_tidx h3 hl h4 h5 s1 s2
        cases xs with
        | nil => cases h2.2
        | cons e0 xs => exact se_cnt o.units h3 hl h4 h5 s1 s2
    · cases h
  | .lc t it d e, c, X, o, x, h => by
    simp only [mE] at h
    split at h
    · rename_i elt tg iter ifs scope hy
      obtain ⟨hc0, hy⟩ := coolO_eq hy
      obtain ⟨p, rfl⟩ := asLc_eq hy
      (simp only [Bool.and_eq_true] at h)
      obtain ⟨⟨⟨⟨⟨h1, h2⟩, h3⟩, h4⟩, h5⟩, h6⟩ := h
      refine SE.plain (tF_val (se_lcF (pt := evE F G d) (pe := evE F G e) (tt := fun _ _ _ => True) (o.calm hc0) o.nd (sI it o _ _ h2) (blkOk_by (by rw [o.hN, o.sc]; exact h1)) (own_snd t) (fun s H C cl fp => st_ok o.blk hc0 h4) (fun s H C cl fp => ?_) (fun s H C cl fp => (sE e o.blk _ h5).v) (plain_fold h3 _)) fun ρ h d h' e => lc_lst _ _ _ _ e) (fun _ => rfl)
      split at h6
      · cases d with
        | miss => exact ⟨fun pins s σ H Q I ⟨ρ, h, J, re, rh, q⟩ => pts_nil.run pins s σ H Q I (q J H true Ext.refl rh rfl)⟩
        | _ => cases h6
      · exact pts_one (sE d o.blk _ h6).t
      · cases h6
    · cases h
  | .tenum a, c, X, o, x, h => by
    simp only [mE] at h
    split at h
    · rename_i f g y hy
      obtain ⟨hc0, hy⟩ := coolO_eq hy
      obtain ⟨p, q, r, s, rfl⟩ := asTenum_eq hy
      (simp only [Bool.and_eq_true, decide_eq_true_eq] at h)
      obtain ⟨⟨⟨⟨⟨h1, h2⟩, h3⟩, h4⟩, h5⟩, h6⟩ := h
      subst h1 h2
      exact se_tenum o hc0 (blt_ok h3).1 (blt_ok h3).2 (blt_ok h4).1 (blt_ok h4).2 h5 (sE a o _ h6)
    · cases h
  | .sset a, c, X, o, x, h => by
    simp only [mE] at h
    split at h
    · rename_i f g y hy
      obtain ⟨hc0, hy⟩ := coolO_eq hy
      obtain ⟨p, q, r, s, rfl⟩ := asTenum_eq hy
      (simp only [Bool.and_eq_true, decide_eq_true_eq] at h)
      obtain ⟨⟨⟨⟨⟨h1, h2⟩, h3⟩, h4⟩, h5⟩, h6⟩ := h
      subst h1 h2
      exact se_sset o hc0 (blt_ok h3).1 (blt_ok h3).2 (blt_ok h4).1 (blt_ok h4).2 h5 (sE a o _ h6)
    · cases h
  | .dcl t it d k v, c, X, o, x, h => by
    simp only [mE] at h
    split at h
    · rename_i kx vx tg iter ifs scope hy
      obtain ⟨hc0, hy⟩ := coolO_eq hy
      obtain ⟨p, rfl⟩ := asDcl_eq hy
      (simp only [Bool.and_eq_true] at h)
      (obtain ⟨⟨⟨⟨⟨⟨h1, h2⟩, h3⟩, h4⟩, h5⟩, h6⟩, h7⟩ := h)
      refine se_dcl (pt := evE F G d) (pk := evE F G k) (pv := evE F G v) (o.calm hc0) o.nd (sI it o _ _ h2) (blkOk_by (by rw [o.hN, o.sc]; exact h1)) (own_snd t) (fun s H C cl fp => st_ok o.blk hc0 h4) (fun s H C cl fp => ?_) (fun s H C cl fp => (sE k o.blk _ h5).v) (fun s H C cl fp => (sE v o.blk _ h6).v) (plain_fold h3 _)
      split at h7
      · cases d with
        | miss => exact ⟨fun pins s σ H Q I ⟨ρ, h, J, re, rh, q⟩ => pts_nil.run pins s σ H Q I (q J H true Ext.refl rh rfl)⟩
        | _ => cases h7
      · exact pts_one (sE d o.blk _ h7).t
      · cases h7
    · cases h
  | .trng a, c, X, o, x, h => by
    simp only [mE] at h
    split at h
    · rename_i f g y hy
      obtain ⟨hc0, hy⟩ := coolO_eq hy
      obtain ⟨p, q, r, s, rfl⟩ := asTenum_eq hy
      (simp only [Bool.and_eq_true, decide_eq_true_eq] at h)
      obtain ⟨⟨⟨⟨⟨h1, h2⟩, h3⟩, h4⟩, h5⟩, h6⟩ := h
      subst h1 h2
      exact se_trng o hc0 (blt_ok h3).1 (blt_ok h3).2 (blt_ok h4).1 (blt_ok h4).2 h5 (sE a o _ h6)
    · cases h
theorem sF : ∀ (t : E) {c : Cs} {X : Cx} (o : Ok c F G X) (x : Expr), mF c t x = true → SF X x (evE F G t).v
  | .lst es, c, X, o, x, h => by
    simp only [mF] at h
    split at h
    · rename_i y hy
      obtain ⟨p, rfl⟩ := asLst_eq hy
      exact ⟨se_lstF (sEs es o _ h), fun _ => rfl⟩
    · cases h
  | .bf .list es, c, X, o, x, h => by
    simp only [mF] at h
    split at h
    · rename_i y xs hy
      obtain ⟨hc0, hy⟩ := coolO_eq hy
      obtain ⟨p, q, rfl⟩ := asCall_eq hy
      simp only [Bool.and_eq_true, decide_eq_true_eq, Bool.not_eq_true'] at h
      obtain ⟨⟨⟨⟨h1, h2⟩, h3⟩, h4⟩, h5⟩ := h
      subst h1
      obtain ⟨e, es', rfl⟩ := isEmpty_cons_false h3
      exact ⟨se_listF o (blt_ok h2).1 (blt_ok h2).2 h4 (sEs es o _ h5), fun _ => rfl⟩
    · cases h
  | .lc t it d e, c, X, o, x, h => by
    simp only [mF] at h
    split at h
    · rename_i elt tg iter ifs scope hy
      obtain ⟨hc0, hy⟩ := coolO_eq hy
      obtain ⟨p, rfl⟩ := asLc_eq hy
      (simp only [Bool.and_eq_true] at h)
      obtain ⟨⟨⟨⟨⟨h1, h2⟩, h3⟩, h4⟩, h5⟩, h6⟩ := h
      refine ⟨se_lcF (pt := evE F G d) (pe := evE F G e) (tt := fun _ _ _ => True) (o.calm hc0) o.nd (sI it o _ _ h2) (blkOk_by (by rw [o.hN, o.sc]; exact h1)) (own_snd t) (fun s H C cl fp => st_ok o.blk hc0 h4) (fun s H C cl fp => ?_) (fun s H C cl fp => (sE e o.blk _ h5).v) (plain_fold h3 _), fun _ => rfl⟩
      split at h6
      · cases d with
        | miss => exact ⟨fun pins s σ H Q I ⟨ρ, h, J, re, rh, q⟩ => pts_nil.run pins s σ H Q I (q J H true Ext.refl rh rfl)⟩
        | _ => cases h6
      · exact pts_one (sE d o.blk _ h6).t
      · cases h6
    · cases h
  | .var _, _, _, _, _, h => by cases h
  | .con _, _, _, _, _, h => by cases h
  | .glo _, _, _, _, _, h => by cases h
  | .miss, _, _, _, _, h => by cases h
  | .tup _, _, _, _, _, h => by cases h
  | .ftup _, _, _, _, _, h => by cases h
  | .isi2 _, _, _, _, _, h => by cases h
  | .isx _ _ _ _, _, _, _, _, h => by cases h
  | .fld _ _ _, _, _, _, _, h => by cases h
  | .mkf _ _ _ _, _, _, _, _, h => by cases h
  | .isv _ _, _, _, _, _, h => by cases h
  | .bad, _, _, _, _, h => by cases h
  | .lcv _ _ _, _, _, _, _, h => by cases h
  | .dpop _ _, _, _, _, _, h => by cases h
  | .srtK _ _, _, _, _, _, h => by cases h
  | .lrg a, c, X, o, x, h => by
    simp only [mF] at h
    split at h
    · rename_i f g y hy
      obtain ⟨hc0, hy⟩ := coolO_eq hy
      obtain ⟨p, q, r, s, rfl⟩ := asTenum_eq hy
      (simp only [Bool.and_eq_true, decide_eq_true_eq] at h)
      obtain ⟨⟨⟨⟨⟨h1, h2⟩, h3⟩, h4⟩, h5⟩, h6⟩ := h
      subst h1 h2
      exact ⟨sf_lrg o hc0 (blt_ok h3).1 (blt_ok h3).2 (blt_ok h4).1 (blt_ok h4).2 h5 (sE a o _ h6), fun _ => rfl⟩
    · cases h
  | .new _, _, _, _, _, h => by cases h
  | .dic0, _, _, _, _, h => by cases h
  | .bin _ _ _, _, _, _, _, h => by cases h
  | .neg _, _, _, _, _, h => by cases h
  | .cmp _ _ _, _, _, _, _, h => by cases h
  | .chain _ _ _ _ _, _, _, _, _, h => by cases h
  | .and _ _, _, _, _, _, h => by cases h
  | .or _ _, _, _, _, _, h => by cases h
  | .not _, _, _, _, _, h => by cases h
  | .ite _ _ _, _, _, _, _, h => by cases h
  | .idx _ _, _, _, _, _, h => by cases h
  | .slc _ _ _, _, _, _, _, h => by cases h
  | .call _ _, _, _, _, _, h => by cases h
  | .callK _ _ _ _, _, _, _, _, h => by cases h
  | .isi _ _, _, _, _, _, h => by cases h
  | .tenum _, _, _, _, _, h => by cases h
  | .sset a, c, X, o, x, h => by
    simp only [mF] at h
    split at h
    · rename_i f g y hy
      obtain ⟨hc0, hy⟩ := coolO_eq hy
      obtain ⟨p, q, r, s, rfl⟩ := asTenum_eq hy
      (simp only [Bool.and_eq_true, decide_eq_true_eq] at h)
      obtain ⟨⟨⟨⟨⟨h1, h2⟩, h3⟩, h4⟩, h5⟩, h6⟩ := h
      subst h1 h2
      exact ⟨se_ssetF o hc0 (blt_ok h3).1 (blt_ok h3).2 (blt_ok h4).1 (blt_ok h4).2 h5 (sE a o _ h6), fun _ => rfl⟩
    · cases h
  | .dcl _ _ _ _ _, _, _, _, _, h => by cases h
  | .trng _, _, _, _, _, h => by cases h
  | .mth _ _ _, _, _, _, _, h => by cases h
  | .bf .len _, _, _, _, _, h => by cases h
  | .bf .int _, _, _, _, _, h => by cases h
  | .bf .abs _, _, _, _, _, h => by cases h
  | .bf .tuple _, _, _, _, _, h => by cases h
  | .bf .max2 _, _, _, _, _, h => by cases h
  | .bf .min2 _, _, _, _, _, h => by cases h
  | .bf .sum _, _, _, _, _, h => by cases h
  | .bf .all _, _, _, _, _, h => by cases h
  | .bf .any _, _, _, _, _, h => by cases h
  | .bf .sorted _, _, _, _, _, h => by cases h
  | .bf .repr _, _, _, _, _, h => by cases h
  | .bf .minD _, _, _, _, _, h => by cases h
theorem sEs : ∀ (t : Es) {c : Cs} {X : Cx} (o : Ok c F G X) (xs : List Expr), mEs c t xs = true → SEs X xs (evEs F G t)
  | .nil, c, X, o, [], h => ses_nil
  | .nil, c, X, o, _ :: _, h => by cases h
  | .cons _ _, c, X, o, [], h => by cases h
  | .cons e es, c, X, o, x :: xs, h => by
    simp only [mEs, Bool.and_eq_true] at h
    exact ses_cons h.1.1 (sE e o _ h.1.2) (sEs es o _ h.2)
theorem sI : ∀ (t : I) {c : Cs} {X : Cx} (o : Ok c F G X) (tg x : Expr), mI c t tg x = true → PI X tg x (tI X.K (evI F G t))
  | .ev e, c, X, o, tg, x, h => pi_any (sE e o x h).v
  | .rng n, c, X, o, tg, x, h => by
    simp only [mI] at h
    split at h
    · rename_i f y hy
      obtain ⟨p, q, rfl⟩ := asCall_eq hy
      (simp only [Bool.and_eq_true, decide_eq_true_eq] at h)
      (obtain ⟨⟨⟨h1, h2⟩, h3⟩, h4⟩ := h)
      subst h1
      exact pi_rng (glb_ok o (blt_ok h2).2).1 (o.blt _ (blt_ok h2).1) h3 (sE n o _ h4)
    · cases h
  | .rng2 a b, c, X, o, tg, x, h => by
    simp only [mI] at h
    split at h
    · rename_i f y z hy
      obtain ⟨p, q, rfl⟩ := asCall_eq hy
      (simp only [Bool.and_eq_true, decide_eq_true_eq] at h)
      obtain ⟨⟨⟨⟨⟨h1, h2⟩, h3⟩, h4⟩, h5⟩, h6⟩ := h
      subst h1
      exact pi_rng2 (glb_ok o (blt_ok h2).2).1 (o.blt _ (blt_ok h2).1) h3 h4 (sE a o _ h5) (sE b o _ h6)
    · cases h
  | .zip a b, c, X, o, tg, x, h => by
    simp only [mI] at h
    split at h
    · rename_i f y z hy
      obtain ⟨p, q, rfl⟩ := asCall_eq hy
      (simp only [Bool.and_eq_true, decide_eq_true_eq] at h)
      (obtain ⟨⟨⟨⟨⟨⟨h1, h2⟩, h3⟩, h4⟩, h5⟩, h6⟩, h7⟩ := h)
      subst h1
      cases ht : asTup tg with
      | none => rw [ht] at h7; cases h7
      | some es =>
        obtain ⟨k, tp, rfl⟩ := asTup_eq ht
        exact pi_zipS (glb_ok o (blt_ok h2).2).1 (o.blt _ (blt_ok h2).1) h3 h4 (sE a o _ h5) (sE b o _ h6)
    · cases h
  | .enum a, c, X, o, tg, x, h => by
    simp only [mI] at h
    split at h
    · rename_i f y hy
      obtain ⟨p, q, rfl⟩ := asCall_eq hy
      (simp only [Bool.and_eq_true, decide_eq_true_eq] at h)
      (obtain ⟨⟨⟨⟨h1, h2⟩, h3⟩, h4⟩, h5⟩ := h)
      subst h1
      cases ht : asTup tg with
      | none => rw [ht] at h5; cases h5
      | some es =>
        obtain ⟨k, tp, rfl⟩ := asTup_eq ht
        exact pi_enumS (glb_ok o (blt_ok h2).2).1 (o.blt _ (blt_ok h2).1) h3 (sE a o _ h4)
    · cases h
end
end
end PV
end

section
set_option maxRecDepth 100000
namespace PV
open L2 PySem PySem.Spec PyProof.Rows

/-! ### what is wanted behind a statement -/
structure KW where
  K : PySem.W.Frag
  mg : Str → Option Value
  /-- what is wished of an exception -/
  W : WX
abbrev kw (X : Cx) (W : WX) : KW := ⟨X.K, X.mg, W⟩
def PostS (κ : KW) (J : Jn) (H : Hp) (r : RS) (D : Ends) : Prop := match r with
  | .nxt ρ h => ∀ J' H' σ, Ext J H J' H' → RE κ.K J' H' ρ σ → RH κ.K J' h H' → D.nx σ H'
  | .brk ρ h => ∀ J' H' σ, Ext J H J' H' → RE κ.K J' H' ρ σ → RH κ.K J' h H' → D.bk σ H'
  | .cnt ρ h => ∀ J' H' σ, Ext J H J' H' → RE κ.K J' H' ρ σ → RH κ.K J' h H' → D.ct σ H'
  | .ret d h => ∀ J' H' v, Ext J H J' H' → RH κ.K J' h H' → RD κ.K J' H' d v → D.rt v H'
  | .err ρ x h => ∀ J' H' σ cls d, Ext J H J' H' → RE κ.K J' H' ρ σ → RH κ.K J' h H' → RX κ.K κ.mg J' H' x cls d → κ.W cls d σ H'
  | .bad => False
def tS (κ : KW) (f : Env → Hh → RS) : TS := fun D σ H => ∃ ρ h J, RE κ.K J H ρ σ ∧ RH κ.K J h H ∧ PostS κ J H (f ρ h) D
section
variable {κ : KW} {J J' : Jn} {H H' : Hp} {h h' : Hh} {ρ : Env} {σ : L2.St} {α β : Type} {D : Ends}
theorem PostS.ext {r : RS} (rh : RH κ.K J h H) (rh' : RH κ.K J' h' H') (e : Ext J H J' H') (p : PostS κ J H r D) : PostS κ J' H' r D := by
  cases r with
  | nxt ρ h2 => exact fun J2 H2 s e2 re2 rh2 => p J2 H2 s (e.trans rh rh' e2) re2 rh2
  | brk ρ h2 => exact fun J2 H2 s e2 re2 rh2 => p J2 H2 s (e.trans rh rh' e2) re2 rh2
  | cnt ρ h2 => exact fun J2 H2 s e2 re2 rh2 => p J2 H2 s (e.trans rh rh' e2) re2 rh2
  | ret d h2 => exact fun J2 H2 s e2 rh2 rd => p J2 H2 s (e.trans rh rh' e2) rh2 rd
  | bad => exact p
  | err ρ x h2 => exact fun J2 H2 s c d e2 re2 rh2 rx => p J2 H2 s c d (e.trans rh rh' e2) re2 rh2 rx
theorem PostS.step {R1 : RelA α β} {f : Env → Hh → R α} {g : α → Hh → RS} (re : RE κ.K J H ρ σ) (rh : RH κ.K J h H) (p : PostS κ J H ((f ρ h).then_ g) D) :
    tG κ.K R1 f σ H (fun b H1 => ∃ J1 h1 a, Ext J H J1 H1 ∧ RE κ.K J1 H1 ρ σ ∧ RH κ.K J1 h1 H1 ∧ R1 J1 H1 a b ∧ PostS κ J1 H1 (g a h1) D) := by
  refine ⟨ρ, h, J, re, rh, ?_⟩
  cases q : f ρ h with
  | ok a h1 =>
    rw [q] at p
    exact fun J1 H1 b e rh1 rl => ⟨J1, h1, a, e, re.ext e, rh1, rl, PostS.ext rh rh1 e p⟩
  | bad => rw [q] at p; exact p
  | err _ _ => rw [q] at p; exact p
theorem PostS.seq {r : RS} {g : Env → Hh → RS} (rh : RH κ.K J h H) (p : PostS κ J H (r.then_ g) D) : PostS κ J H r { D with nx := tS κ g D } := by
  cases r with
  | nxt ρ h2 => exact fun J2 H2 s e2 re2 rh2 => ⟨ρ, h2, J2, re2, rh2, PostS.ext rh rh2 e2 p⟩
  | brk ρ h2 => exact p
  | cnt ρ h2 => exact p
  | ret d h2 => exact p
  | bad => exact p
  | err _ _ _ => exact p
end
section
variable {K : PySem.W.Frag} {J J' : Jn} {H H' : Hp} {h h' : Hh} {ρ : Env} {σ : L2.St} {α β : Type} {D : Ends}

/-! ### objects let go -/
abbrev Jn.cut (J : Jn) (n : Nat) : Jn := ⟨J.l.take n, J.z⟩
mutual
theorem RD.cut {n : Nat} : ∀ {d : PV.D} {v : V}, d.rlt n = true → RD K J H d v → RD K (J.cut n) H d v
  | _, _, _, .non => .non
  | _, _, _, .bl b => .bl b
  | _, _, _, .int i => .int i
  | _, _, _, .str x => .str x
  | _, _, h, .tup a m q z r => .tup (fun hm => a (List.mem_of_mem_take hm)) m q z (RDs.cut h r)
  | _, _, h, .ktup k z r => .ktup k z (RDs.cut h r)
  | _, _, h, .lst a m q z r => .lst (fun hm => a (List.mem_of_mem_take hm)) m q z (RDs.cut h r)
  | _, _, h, .ref q => .ref (by
      have h : decide (_ < n) = true := h
      have := of_decide_eq_true h
      show (J.l.take n)[_]? = _
      rw [List.getElem?_take_of_lt this]; exact q)
  | _, _, h, .fz a m q z r => .fz (fun hm => a (List.mem_of_mem_take hm)) m q z (RDs.cut h r)
  | _, _, h, .kfz k z r => .kfz k z (RDs.cut h r)
  | _, _, h, .ft a m q c d z r => .ft (fun hm => a (List.mem_of_mem_take hm)) m q c d z (RDs.cut h r)
  | _, _, _, .exc a m q => .exc (fun hm => a (List.mem_of_mem_take hm)) m q
  | _, _, h, .exf a m q a2 m2 q2 r => .exf (fun hm => a (List.mem_of_mem_take hm)) m q (fun hm => a2 (List.mem_of_mem_take hm)) m2 q2 (RD.cut h r)
theorem RDs.cut {n : Nat} : ∀ {ds : List PV.D} {vs : List V}, PV.D.rlts n ds = true → RDs K J H ds vs → RDs K (J.cut n) H ds vs
  | _, _, _, .nil => .nil
  | _, _, h, .cons r t => by
    simp only [PV.D.rlts, Bool.and_eq_true] at h
    exact .cons (RD.cut h.1 r) (RDs.cut h.2 t)
end
theorem paired_all {γ δ : Type} {Q Q' : γ → δ → Prop} {f : γ → Bool} (hf : ∀ p q, f p = true → Q p q → Q' p q) : ∀ {xs : List γ} {ys : List δ}, xs.all f = true → Paired Q xs ys → Paired Q' xs ys
  | _, _, _, .nil => .nil
  | _, _, h, .cons x t => by
    (simp only [List.all_cons, Bool.and_eq_true] at h)
    exact .cons (hf _ _ h.1 x) (paired_all hf h.2 t)
theorem RO.cut {n : Nat} {o : O} {u : HO} (h : o.rlt n = true) (r : RO K J H o u) : RO K (J.cut n) H o u := by
  cases r with
  | lst z r => exact .lst z (r.cut h)
  | @dct kvs kws z r =>
    have h : (kvs.all fun p : Key × PV.D => p.2.rlt n) = true := h
    exact .dct z (paired_all (fun p q hp x => ⟨x.1, x.2.cut hp⟩) h r)
  | tb t r => exact .tb t fun pos cv hc => let ⟨c, e1, n1, n2, e2⟩ := r pos cv hc; ⟨c, e1, fun hm => n1 (List.mem_of_mem_take hm), n2, e2⟩
theorem RH.cut {n : Nat} (hn : n ≤ h.length) (hr : Hh.rlt (h.take n) n = true) (rh : RH K J h H) : RH K (J.cut n) (h.take n) H where
  nd := (List.take_sublist n J.l).nodup rh.nd
  len := by show (J.l.take n).length = _; rw [List.length_take, List.length_take, rh.len]
  obj := fun i o e => by
    have hi : i < n := by
      have := (List.getElem?_eq_some_iff.mp e).1
      simp at this; omega
    have e' : h[i]? = some o := by rw [List.getElem?_take_of_lt hi] at e; exact e
    obtain ⟨a, u, h1, h2, h3⟩ := rh.obj i o e'
    refine ⟨a, u, by show (J.l.take n)[i]? = _; rw [List.getElem?_take_of_lt hi]; exact h1, h2, h3.cut ?_⟩
    exact List.all_eq_true.mp hr o (List.mem_of_getElem? e)
  apart := fun a ha hm => rh.apart a ha (List.mem_of_mem_take hm)
  zed := rh.zed
  tbs := fun i P q e => by
    have hi : i < n := by
      have := (List.getElem?_eq_some_iff.mp e).1
      simp at this; omega
    have e' : h[i]? = some (.tb P q) := by rw [List.getElem?_take_of_lt hi] at e; exact e
    show (J.l.take n)[i]? = _
    rw [List.getElem?_take_of_lt hi]
    exact rh.tbs i P q e'
theorem kill_get : ∀ {ks : List Nat} {ρ : Env} {i : Nat} {d : PV.D}, (kill ks ρ)[i]? = some (some d) → ρ[i]? = some (some d)
  | [], _, _, _, e => e
  | k :: ks, ρ, i, d, e => by
    have := kill_get (ks := ks) e
    by_cases hj : k = i
    · subst hj
      by_cases hl : k < ρ.length
      · rw [List.getElem?_set_self hl] at this; cases this
      · rw [List.getElem?_eq_none (by simpa using hl)] at this; cases this
    · rwa [List.getElem?_set_ne hj] at this
theorem kill_len : ∀ {ks : List Nat} {ρ : Env}, (kill ks ρ).length = ρ.length
  | [], _ => rfl
  | k :: ks, ρ => by show (kill ks _).length = _; rw [kill_len, List.length_set]
theorem RE.cut {n : Nat} {ks : List Nat} (hr : Env.rlt n (kill ks ρ) = true) (re : RE K J H ρ σ) : RE K (J.cut n) H (kill ks ρ) σ := by
  refine ⟨by rw [kill_len]; exact re.len, fun i d q => ?_⟩
  obtain ⟨v, h1, h2⟩ := re.get i d (kill_get q)
  exact ⟨v, h1, h2.cut (List.all_eq_true.mp hr (some d) (List.mem_of_getElem? q))⟩
theorem Ext.cut (rh : RH K J h H) (e : Ext J H J' H') : Ext J H (J'.cut h.length) H' := by
  obtain ⟨m, hm, _⟩ := e.pre
  refine ⟨e.z, ⟨[], ?_, by simp⟩, e.keep⟩
  show J'.l.take h.length = J.l ++ []
  rw [hm, ← rh.len, List.take_left, List.append_nil]
theorem PostS.gc {κ : KW} {r : RS} {ks : List Nat} (rh : RH κ.K J h H) (p : PostS κ J H (gcS ks h.length r) D) : PostS κ J H r D := by
  have hle : ∀ {J' : Jn} {H' : Hp} {h' : Hh}, Ext J H J' H' → RH κ.K J' h' H' → h.length ≤ h'.length := fun e rh' => by
    obtain ⟨m, hm, _⟩ := e.pre
    rw [← rh'.len, ← rh.len, hm, List.length_append]; omega
  cases r with
  | nxt ρ h2 =>
    simp only [gcS] at p
    split at p
    · rename_i hc
      (simp only [Bool.and_eq_true] at hc)
      exact fun J2 H2 s e2 re2 rh2 => p _ H2 s (e2.cut rh) (re2.cut hc.1) (rh2.cut (hle e2 rh2) hc.2)
    · exact p.elim
  | brk ρ h2 =>
    simp only [gcS] at p
    split at p
    · rename_i hc
      (simp only [Bool.and_eq_true] at hc)
      exact fun J2 H2 s e2 re2 rh2 => p _ H2 s (e2.cut rh) (re2.cut hc.1) (rh2.cut (hle e2 rh2) hc.2)
    · exact p.elim
  | cnt ρ h2 =>
    simp only [gcS] at p
    split at p
    · rename_i hc
      (simp only [Bool.and_eq_true] at hc)
      exact fun J2 H2 s e2 re2 rh2 => p _ H2 s (e2.cut rh) (re2.cut hc.1) (rh2.cut (hle e2 rh2) hc.2)
    · exact p.elim
  | ret d h2 => exact p
  | bad => exact p
  | err _ _ _ => exact p
end

/-! ### the statements -/
section
variable {X : Cx} {W : WX} {e x a b : Expr} {st : Stmt} {p pa pb pc : P} {pos pos' : Pos}
theorem ss_nil : PSs X [] (tS (kw X W) fun ρ h => .nxt ρ h) := pss_nil.imp fun D σ H ⟨ρ, h, J, re, rh, q⟩ => q J H σ Ext.refl re rh
theorem ss_cons {sts : List Stmt} {f g : Env → Hh → RS} (h1 : PS X st (tS (kw X W) f)) (h2 : PSs X sts (tS (kw X W) g)) : PSs X (st :: sts) (tS (kw X W) fun ρ h => (f ρ h).then_ g) :=
  (pss_cons h1 h2).imp fun D σ H ⟨ρ, h, J, re, rh, q⟩ => ⟨ρ, h, J, re, rh, q.seq rh⟩
def notComp : Expr → Bool
  | .ListComp .. => false
  | .SetComp .. => false
  | .DictComp .. => false
  | _ => true
theorem swaps_not {t : Option Expr} {l : Nat} {env : PySem.Env} (h : notComp e = true) : swapsWith e t l env = pure false := by cases e <;> first | rfl | cases h
/-- the value of an assignment to a name: no comprehension, or the name is a cell -/
def mayAsg (c : Bool) : Expr → Bool
  | .ListComp .. => c
  | .DictComp .. => c
  | e => notComp e
theorem swaps_may {y : Str} {py : Pos} {l : Nat} {env : PySem.Env} {e : Expr} {c : Bool} (hc : c = true → env.scope.names.lookup y = some .cell) (h : mayAsg c e = true) : swapsWith e (some (.Name y py)) l env = pure false := by
  cases e with
  | ListComp elt gs sc pos =>
    have k : env.kindOf y = some .cell := hc h
    unfold swapsWith
    simp only [k]
    have : (some NameKind.cell == some NameKind.local) = false := rfl
    rw [this]
    simp only [Bool.and_false, Bool.false_and] <;> rfl
  | DictComp kx vx gs sc pos =>
    have k : env.kindOf y = some .cell := hc h
    unfold swapsWith
    simp only [k]
    have : (some NameKind.cell == some NameKind.local) = false := rfl
    rw [this]
    simp only [Bool.and_false, Bool.false_and] <;> rfl
  | _ => first | rfl | cases h
theorem ss_asg {i : Nat} {y : Str} {c : Bool} (hN : X.N.Nodup) (hi : X.N[i]? = some y) (hx : L2.Loc X.env.scope y) (hf : X.fn y = true ∨ X.env.scope.names.lookup y = some .local) (hc : c = true → X.env.scope.names.lookup y = some .cell) (hn : mayAsg c e = true) (he : SE X e p) :
    PS X (.Assign [.Name y pos'] e pos) (tS (kw X W) fun ρ h => (p.v ρ h).then_ fun x h1 => .nxt (ρ.set i (some x)) h1) :=
  (ps_set hN hi hx he.v (swaps_may hc hn) hf).imp fun D σ H ⟨ρ, h, J, re, rh, q⟩ => (PostS.step (R1 := rD X.K) (f := p.v) re rh q).mono fun x H1 ⟨J1, h1, dx, e1, re1, rh1, rx, q1⟩ => q1 J1 H1 _ Ext.refl (re1.set i rx) rh1
theorem ss_exp (hn : notComp e = true) (he : SE X e p) : PS X (.Expr e pos) (tS (kw X W) fun ρ h => (p.v ρ h).then_ fun _ h1 => .nxt ρ h1) :=
  (ps_expr he.v (swaps_not hn)).imp fun D σ H ⟨ρ, h, J, re, rh, q⟩ => (PostS.step (R1 := rD X.K) (f := p.v) re rh q).mono fun x H1 ⟨J1, h1, dx, e1, re1, rh1, rx, q1⟩ => q1 J1 H1 _ Ext.refl re1 rh1
theorem ss_ret (he : SE X e p) : PS X (.Return (some e) pos) (tS (kw X W) fun ρ h => (p.v ρ h).then_ fun x h1 => .ret x h1) :=
  (ps_ret he.v).imp fun D σ H ⟨ρ, h, J, re, rh, q⟩ => (PostS.step (R1 := rD X.K) (f := p.v) re rh q).mono fun x H1 ⟨J1, h1, dx, e1, re1, rh1, rx, q1⟩ => q1 J1 H1 _ Ext.refl rh1 rx
theorem ss_retN : PS X (.Return none pos) (tS (kw X W) fun _ h => .ret .non h) := ps_retN.imp fun D σ H ⟨ρ, h, J, re, rh, q⟩ => q J H _ Ext.refl rh .non
theorem ss_pass : PS X (.Pass pos) (tS (kw X W) fun ρ h => .nxt ρ h) := ps_pass.imp fun D σ H ⟨ρ, h, J, re, rh, q⟩ => q J H σ Ext.refl re rh
theorem ss_brk : PS X (.Break pos) (tS (kw X W) fun ρ h => .brk ρ h) := ps_break.imp fun D σ H ⟨ρ, h, J, re, rh, q⟩ => q J H σ Ext.refl re rh
theorem ss_cnt : PS X (.Continue pos) (tS (kw X W) fun ρ h => .cnt ρ h) := ps_continue.imp fun D σ H ⟨ρ, h, J, re, rh, q⟩ => q J H σ Ext.refl re rh
theorem ss_if {as bs : List Stmt} {f g : Env → Hh → RS} (hc : SE X e p) (ha : PSs X as (tS (kw X W) f)) (hb : PSs X bs (tS (kw X W) g)) : PS X (.If e as bs pos) (tS (kw X W) fun ρ h => (p.t ρ h).then_ fun t h1 => if t then f ρ h1 else g ρ h1) :=
  (ps_if hc.t ha hb).imp fun D σ H ⟨ρ, h, J, re, rh, q⟩ => (PostS.step (R1 := rB) (f := p.t) re rh q).mono fun x H1 ⟨J1, h1, t, e1, re1, rh1, rx, q1⟩ => by
    have rx : t = x := rx
    subst rx
    cases t with
    | true => exact ⟨ρ, h1, J1, re1, rh1, q1⟩
    | false => exact ⟨ρ, h1, J1, re1, rh1, q1⟩
theorem ss_whl {body : List Stmt} {f : Env → Hh → RS} (hx : PassesOwn (model X.prog X.w) X.A X.env X.xe) (hc : SE X e p) (hb : PSs X body (tS (kw X W) f)) : PS X (.While e body [] pos) (tS (kw X W) fun ρ h => whlLoop p.t f wfuel ρ h) := by
  refine (ps_while hx hc.t hb).imp fun D σ H ⟨ρ, h, J, re, rh, q⟩ => ?_
  refine ⟨fun m σ H => ∃ ρ h J, RE X.K J H ρ σ ∧ RH X.K J h H ∧ PostS (kw X W) J H (whlLoop p.t f m ρ h) D, ⟨wfuel, ρ, h, J, re, rh, q⟩, ?_⟩
  clear q re rh
  rintro m σ H ⟨ρ, h, J, re, rh, q⟩
  cases m with
  | zero => exact False.elim q
  | succ m =>
    refine (PostS.step (R1 := rB) (f := p.t) re rh q).mono fun x H1 ⟨J1, h1, t, e1, re1, rh1, rx, q1⟩ => ?_
    have rx : t = x := rx
    subst rx
    cases t with
    | false => exact q1 J1 H1 _ Ext.refl re1 rh1
    | true =>
      simp only [if_true] at q1 ⊢
      refine ⟨fun σ' H' => ∃ ρ h J, RE X.K J H' ρ σ' ∧ RH X.K J h H' ∧ PostS (kw X W) J H' (whlLoop p.t f m ρ h) D, fun σ' H' z => ⟨m, Nat.lt_succ_self m, z⟩, ρ, h1, J1, re1, rh1, ?_⟩
      cases ef : f ρ h1 with
      | nxt ρ' h' => rw [ef] at q1; exact fun J2 H2 s e2 re2 rh2 => ⟨ρ', h', J2, re2, rh2, PostS.ext rh1 rh2 e2 q1⟩
      | cnt ρ' h' => rw [ef] at q1; exact fun J2 H2 s e2 re2 rh2 => ⟨ρ', h', J2, re2, rh2, PostS.ext rh1 rh2 e2 q1⟩
      | brk ρ' h' => rw [ef] at q1; exact q1
      | ret d h' => rw [ef] at q1; exact q1
      | bad => rw [ef] at q1; exact q1
      | err _ _ _ => rw [ef] at q1; exact q1
theorem ss_for {tg iter : Expr} {body : List Stmt} {t : Tg} {fi : Env → Hh → R Src} {f : Env → Hh → RS} (hx : PassesOwn (model X.prog X.w) X.A X.env X.xe) (hc : X.calm = true) (hi : PI X tg iter (tI X.K fi)) (hg : ST X tg t t.slots) (hb : PSs X body (tS (kw X W) f)) (hp : plainX iter = true) :
    PS X (.For tg iter body [] pos) (tS (kw X W) fun ρ h => (fi ρ h).then_ fun s h1 => forLoop s.good t f s.items ρ h1) := by
  refine (ps_for hx hc hi hg.run hb (plain_fold hp _)).imp fun D σ H ⟨ρ, h, J, re, rh, q⟩ => ?_
  refine ⟨ρ, h, J, re, rh, ?_⟩
  dsimp only at q
  cases ev : fi ρ h with
  | bad => rw [ev] at q; exact q
  | err _ _ => rw [ev] at q; exact q
  | ok src h1 =>
    rw [ev, R.then_ok] at q
    intro J1 H1 it e1 rh1 itok
    let Wf : Nat → Nat → L2.St → Hp → Prop := fun i m σ H2 => m = src.items.length - i ∧ i ≤ src.items.length ∧ ∃ ρ2 h2 J2, RE X.K J2 H2 ρ2 σ ∧ RH X.K J2 h2 H2 ∧ Sub J1 H1 J2 H2 ∧ PostS (kw X W) J2 H2 (forLoop src.good t f (src.items.drop i) ρ2 h2) D
    refine ⟨Wf, ⟨src.items.length, by simp, Nat.zero_le _, ρ, h1, J1, re.ext e1, rh1, Sub.refl, PostS.ext rh rh1 e1 q⟩, fun i m σ H2 hW => ?_⟩
    clear q
    obtain ⟨rfl, hi', ρ2, h2, J2, re2, rh2, s2, q⟩ := hW
    cases hd : src.items[i]? with
    | none =>
      have hlen : i = src.items.length := by have := List.getElem?_eq_none_iff.mp hd; omega
      subst hlen
      rw [List.drop_eq_nil_of_le (Nat.le_refl _)] at q
      unfold forLoop at q
      split at q
      · rename_i hgood
        exact .inl ⟨itok.stop s2 rh2 hgood, q J2 H2 σ Ext.refl re2 rh2⟩
      · exact False.elim q
    | some d =>
      have hlt : i < src.items.length := (List.getElem?_eq_some_iff.mp hd).1
      rw [List.drop_eq_getElem_cons hlt] at q
      have hde : src.items[i] = d := by rw [List.getElem?_eq_getElem hlt] at hd; exact Option.some.inj hd
      rw [hde] at q
      unfold forLoop at q
      cases hgood : src.good h2 with
      | false => rw [hgood] at q; exact False.elim q
      | true =>
        rw [hgood] at q
        simp only [if_true] at q
        obtain ⟨g1, g2⟩ := itok.go s2 rh2 hgood hd
        refine .inr ⟨g1, fun σ' H' => ∃ m', m' < src.items.length - i ∧ Wf (i + 1) m' σ' H', fun σ' H' z => z, fun xv H3 y3 => ?_⟩
        obtain ⟨e3, rh3, rd3⟩ := g2 xv H3 y3
        cases ht2 : t.put d ρ2 with
        | none => simp only [ht2] at q; exact False.elim q
        | some ρ' =>
          simp only [ht2] at q
          have q := PostS.ext rh2 rh3 e3 q
          refine ⟨ρ2, ρ', h2, J2, d, re2.ext e3, rh3, rd3, ht2, fun σ2 re4 hk hl => ⟨ρ', h2, J2, re4, rh3, ?_⟩⟩
          have again : ∀ {ρ5 : Env} {h5 : Hh}, PostS (kw X W) J2 H3 (forLoop src.good t f (src.items.drop (i + 1)) ρ5 h5) D → ∀ J5 H5 σ5, Ext J2 H3 J5 H5 → RE X.K J5 H5 ρ5 σ5 → RH X.K J5 h5 H5 → ∃ m', m' < src.items.length - i ∧ Wf (i + 1) m' σ5 H5 :=
            fun {ρ5 h5} q5 J5 H5 σ5 e5 re5 rh5 => ⟨_, by omega, rfl, hlt, ρ5, h5, J5, re5, rh5, (s2.trans e3.sub).trans e5.sub, PostS.ext rh3 rh5 e5 q5⟩
          cases ef : f ρ' h2 with
          | nxt ρ5 h5 => rw [ef] at q; exact again q
          | cnt ρ5 h5 => rw [ef] at q; exact again q
          | brk ρ5 h5 => rw [ef] at q; exact q
          | ret d h' => rw [ef] at q; exact q
          | bad => rw [ef] at q; exact q
          | err _ _ _ => rw [ef] at q; exact q
/-! ### calls whose exception goes on -/
theorem callX_do {F : Fns} {f n : Nat} {pl : PL} {g : D → Env → Hh → RS} {D : Ends} {σ : L2.St} {H : Hp} (hlen : ∀ ρ h ds h', pl.l ρ h = .ok ds h' → ds.length = n) (ρ : Env) (h : Hh) (J : Jn) (re : RE X.K J H ρ σ) (rh : RH X.K J h H) (q : PostS (kw X W) J H ((pl.l ρ h).then_ fun xs h1 => (F f xs h1).thenX ρ fun x h2 => g x ρ h2) D) :
    tCX X W F f n pl.l σ H (fun v H1 => ∃ d h1 J1, RE X.K J1 H1 ρ σ ∧ RH X.K J1 h1 H1 ∧ RD X.K J1 H1 d v ∧ PostS (kw X W) J1 H1 (g d ρ h1) D) := by
  refine ⟨ρ, h, J, re, rh, ?_⟩
  cases ev : pl.l ρ h with
  | bad => rw [ev] at q; exact q
  | err _ _ => rw [ev] at q; exact q
  | ok ds h1 =>
    rw [ev, R.then_ok] at q
    intro J1 H1 vs e1 rh1 rs
    have q1 := PostS.ext rh rh1 e1 q
    refine ⟨J1, h1, ds, rh1, rs, hlen _ _ _ _ ev, ?_⟩
    have re1 := re.ext e1
    cases ef : F f ds h1 with
    | bad => rw [ef] at q1; exact q1
    | err x h2 => rw [ef] at q1; exact fun J2 H2 c d e2 rh2 rx => q1 J2 H2 σ c d e2 (re1.ext e2) rh2 rx
    | ok d h2 => rw [ef] at q1; exact fun J2 H2 b e2 rh2 rd => ⟨d, h2, J2, re1.ext e2, rh2, rd, PostS.ext rh1 rh2 e2 q1⟩
end
end PV
end

section
set_option maxRecDepth 100000
namespace PV
open L2 PySem PySem.Spec PyProof.Rows
section
variable {X : Cx} {W : WX} {e x a b : Expr} {st : Stmt} {p pa pb pc : P} {pos pos' : Pos}

/-! ### several names at once -/
theorem ss_unp {es : List Expr} {is : List Nat} {k : Nat} {tp : Pos} (hc : X.calm = true) (hs : STs X es is) (hn : notComp e = true) (ht : swappedStores [.Tuple es k tp] e X.env = pure none) (he : SE X e p) :
    PS X (.Assign [.Tuple es k tp] e pos) (tS (kw X W) fun ρ h => (p.v ρ h).then_ fun x h1 => RS.opt ((Tg.tu is).put x ρ) h1) := by
  refine (ps_asg he.v (st_tu hc hs).run ?_ ?_).imp fun D σ H ⟨ρ, h, J, re, rh, q⟩ => ?_
  · unfold swapsWithSole
    exact swaps_not hn
  · exact ht
  refine (PostS.step (R1 := rD X.K) (f := p.v) re rh q).mono fun x H1 ⟨J1, h1, dx, e1, re1, rh1, rx, q1⟩ => ?_
  cases hp : (Tg.tu is).put dx ρ with
  | none => rw [hp] at q1; exact False.elim q1
  | some ρ' => rw [hp] at q1; exact ⟨ρ, ρ', h1, J1, dx, re1, rh1, rx, hp, fun σ' re' _ _ => q1 J1 H1 σ' Ext.refl re' rh1⟩
theorem swapped_no {es : List Expr} {k : Nat} {tp : Pos} {env : PySem.Env} (ht : asTup e = none) : swappedStores [.Tuple es k tp] e env = pure none := by
  cases e <;> first | rfl | cases ht
theorem filter_lt {α β : Type} {f : α → Option β} : ∀ {l : List α}, (∃ x ∈ l, f x = none) → (l.filterMap f).length ≠ l.length
  | [], h => by obtain ⟨x, hx, _⟩ := h; cases hx
  | y :: l, h => by
    obtain ⟨x, hx, e⟩ := h
    have le := List.length_filterMap_le f l
    cases q : f y with
    | none => rw [List.filterMap_cons_none q, List.length_cons]; omega
    | some z =>
      rw [List.filterMap_cons_some q, List.length_cons, List.length_cons]
      (rcases List.mem_cons.mp hx with rfl | hx)
      · rw [q] at e; cases e
      · have := filter_lt (l := l) ⟨x, hx, e⟩
        omega
/-- .. a captured one among them: they are not -/
theorem swapped_cel {es : List Expr} {tp : Pos} {k : Nat} {env : PySem.Env} (h : ∃ y ∈ es, ∃ x p, y = .Name x p ∧ env.scope.names.lookup x = some .cell) : swappedStores [.Tuple es k tp] e env = pure none := by
  have one : ∀ line : Nat, ((es.filterMap fun
    | .Name id p0 => if env.kindOf id == some .local && p0.line == line then some id else none
    | _ => none).length ≠ es.length) := by
    intro line
    refine filter_lt ?_
    obtain ⟨y, hy, x, p, rfl, hl⟩ := h
    have kx : env.kindOf x = some .cell := hl
    exact ⟨_, hy, by simp [kx]⟩
  unfold swappedStores
  cases e <;> try rfl
  dsimp only
  split
  · rfl
  · split
    · rfl
    · rw [if_pos]
      rw [Bool.or_eq_true]
      exact .inl (bne_iff_ne.mpr (one _))
/-- two names from two values: the stores are swapped -/
theorem swapped_two {x y : Str} {px py tp vp : Pos} {k k2 : Nat} {env : PySem.Env} (hk : env.scope.kind = .function) (hx : env.scope.names.lookup x = some .local) (hy : env.scope.names.lookup y = some .local) (hne : x ≠ y) (hl : (py.line == px.line) = true)
    (ha : plainX a = true) (hb : plainX b = true) (hf : (foldedForSure 8 a && foldedForSure 8 b) = false) (hcn : (constantsAlone 8 a && constantsAlone 8 b) = false) :
    swappedStores [.Tuple [.Name x px, .Name y py] k tp] (.Tuple [a, b] k2 vp) env = pure (some [x, y]) := by
  have kx : env.kindOf x = some .local := hx
  (have ky : env.kindOf y = some .local := hy)
  have hbk : env.blockKind = .function := by unfold PySem.Env.blockKind; rw [hk]; rfl
  have h1 : ([a, b].any fun | .Starred .. => true | _ => false) = false := by
    cases a <;> first | (exfalso; cases ha; done) | (cases b <;> first | (exfalso; cases hb; done) | rfl)
  have h2 : [a, b].all (foldedForSure 8) = false := by simpa using hf
  have h3 : [a, b].all (constantsAlone 8) = false := by simpa using hcn
  have hl' : py.line = px.line := by simpa using hl
  have h5 : ([x, y] : List Str).eraseDups.length = 2 := by
    have h6 : (y == x) = false := by simpa using (Ne.symm hne)
    simp [List.eraseDups_cons, h6]
  unfold swappedStores
  simp only [hbk, h1, h2, h3, List.filterMap_cons, List.filterMap_nil, kx, ky, List.head?_cons, Option.map_some, Option.getD_some, Expr.pos, hl', beq_self_eq_true, Bool.and_self, if_true, h5]
  rw [if_neg (by simp), if_neg (fun hh => absurd (hh.symm.trans h1) (by decide)), if_neg (by simp), if_neg (by decide), if_neg (by decide)]
theorem ss_par {i j : Nat} {x y : Str} {px py tp vp : Pos} {k k2 : Nat} (hc : X.calm = true) (hN : X.N.Nodup) (hi : X.N[i]? = some x) (hj : X.N[j]? = some y) (hij : i ≠ j) (hk : X.env.scope.kind = .function)
    (hx : X.env.scope.names.lookup x = some .local) (hy : X.env.scope.names.lookup y = some .local) (hne : x ≠ y) (hl : (py.line == px.line) = true) (hpa : plainX a = true) (hpb : plainX b = true) (hf : (foldedForSure 8 a && foldedForSure 8 b) = false) (hcn : (constantsAlone 8 a && constantsAlone 8 b) = false)
    (ha : SE X a pa) (hb : SE X b pb) :
    PS X (.Assign [.Tuple [.Name x px, .Name y py] k tp] (.Tuple [a, b] k2 vp) pos) (tS (kw X W) fun ρ h => (pa.v ρ h).then_ fun x h1 => (pb.v ρ h1).then_ fun y h2 => .nxt ((ρ.set i (some x)).set j (some y)) h2) := by
  refine (ps_par hc hN hi hj hij hx hy (pa_cons ha.v (pa_cons hb.v pa_nil (plain_star hpb _ _)) (plain_star hpa _ _)) (swapped_two hk hx hy hne hl hpa hpb hf hcn)).imp fun D σ H ⟨ρ, h, J, re, rh, q⟩ => ?_
  refine (PostS.step (R1 := rD X.K) (f := pa.v) re rh q).mono fun x H1 ⟨J1, h1, dx, e1, re1, rh1, rx, q1⟩ => ?_
  refine (PostS.step (R1 := rD X.K) (f := pb.v) re1 rh1 q1).mono fun y H2 ⟨J2, h2, dy, e2, re2, rh2, ry, q2⟩ => ?_
  exact ⟨x, y, rfl, q2 J2 H2 _ Ext.refl ((re2.set i (rx.ext e2)).set j ry) rh2⟩

/-! ### stores -/
theorem putD_rel {K : PySem.W.Frag} {J : Jn} {H : Hp} {kvs : List (Key × D)} {kws : List (Key × V)} {k : Key} {d : D} {v : V} (r : Paired (fun p q => p.1 = q.1 ∧ RD K J H p.2 q.2) kvs kws) (rv : RD K J H d v) :
    Paired (fun p q => p.1 = q.1 ∧ RD K J H p.2 q.2) (putD kvs k d) (putK kws k v) := by
  have ha : ∀ {kvs : List (Key × D)} {kws : List (Key × V)}, Paired (fun p q => p.1 = q.1 ∧ RD K J H p.2 q.2) kvs kws → (kvs.any fun kv => decide (kv.1 = k)) = kws.any fun kv => decide (kv.1 = k) := by
    intro kvs kws r
    induction r with
    | nil => rfl
    | cons x t ih => simp only [List.any_cons, ih, x.1]
  have hm : ∀ {kvs : List (Key × D)} {kws : List (Key × V)}, Paired (fun p q => p.1 = q.1 ∧ RD K J H p.2 q.2) kvs kws → Paired (fun p q => p.1 = q.1 ∧ RD K J H p.2 q.2) (kvs.map fun kv => if kv.1 = k then (kv.1, d) else kv) (kws.map fun kv => if kv.1 = k then (kv.1, v) else kv) := by
    intro kvs kws r
    induction r with
    | nil => exact .nil
    | @cons p q ps qs x t ih =>
      refine .cons ?_ ih
      dsimp only
      by_cases hk : p.1 = k
      · rw [if_pos hk, if_pos (x.1 ▸ hk)]; exact ⟨x.1, rv⟩
      · rw [if_neg hk, if_neg (x.1 ▸ hk)]; exact x
  have hap : ∀ {kvs : List (Key × D)} {kws : List (Key × V)}, Paired (fun p q => p.1 = q.1 ∧ RD K J H p.2 q.2) kvs kws → Paired (fun p q => p.1 = q.1 ∧ RD K J H p.2 q.2) (kvs ++ [(k, d)]) (kws ++ [(k, v)]) := by
    intro kvs kws r
    induction r with
    | nil => exact .cons ⟨rfl, rv⟩ .nil
    | cons x t ih => exact .cons x ih
  unfold putD putK
  rw [ha r]
  split
  · exact hm r
  · exact hap r
theorem putK_len {kws : List (Key × V)} {k : Key} {v : V} : (putK kws k v).length ≤ kws.length + 1 := by
  unfold putK
  split
  · rw [List.length_map]; omega
  · rw [List.length_append]; exact Nat.le_refl _
def rSto (K : PySem.W.Frag) : TSet := fun o i v H Q => ∃ J h do_ di dv h', RH K J h H ∧ RD K J H do_ o ∧ RD K J H di i ∧ RD K J H dv v ∧ stoOp do_ di dv h = some h' ∧ ∀ J' H', Ext J H J' H' → RH K J' h' H' → Q H'
theorem ps_stoR (hu : X.A.units + 1 < cLine) : PSet X (rSto X.K) := by
  intro pins s σ H o i v ov iv u Q I ro ri rv ⟨J, h, do_, di, dv, h', rh, r1, r2, r3, e, q⟩
  cases r1 with
  | @ref n a q1 =>
    obtain ⟨ob, w, h1, h2, h3⟩ := rh.at q1
    simp only [stoOp, h1] at e
    cases h3 with
    | @lst ds vs z rr =>
      cases r2 with
      | int k =>
        dsimp only at e
        split at e
        · rename_i j hj
          cases e
          rw [rr.length] at hj
          have r4 : RDs X.K J H (ds.set j dv) (vs.set j v) := rr.set j r3
          exact set_list pins s σ H _ _ v ov iv u Q I ro ri rv ⟨a, vs, k, j, rfl, rfl, h2, hj, q J _ (Ext.write q1) (rh.writeL q1 (by simpa using z) r4)⟩
        · cases e
      | _ => cases e
    | tb _ _ => cases e
    | @dct kvs kws z rr =>
      dsimp only at e
      split at e
      · rename_i k hk
        split at e
        · rename_i hz
          cases e
          have hz' : kws.length + 1 ≤ sizeLine := by rw [← Paired.length rr]; exact size_of hz
          have hi := key_inv hk r2
          subst hi
          exact set_dict hu pins s σ H _ _ v ov iv u Q I ro ri rv ⟨a, _, rfl, .k h2 hz', q J _ (Ext.write q1) (rh.write q1 (.dct (Nat.le_trans putK_len hz') (Paired.mapP (putD_rel rr r3) fun p q x => ⟨x.1, x.2.ext (Ext.write q1)⟩)))⟩
        · cases e
      · cases e
  | _ => cases e
theorem ss_sto {o i : Expr} {po pi : P} {sp : Pos} (hu : X.A.units + 200 < cLine) (hn : plainX i = true) (ho : SE X o po) (hi : SE X i pi) (he : SE X e p) :
    PS X (.Assign [.Subscript o i sp] e pos) (tS (kw X W) fun ρ h => (p.v ρ h).then_ fun x h1 => (po.v ρ h1).then_ fun y h2 => (pi.v ρ h2).then_ fun z h3 => match stoOp y z x h3 with
    | some h4 => .nxt ρ h4
    | none => .bad) := by
  refine (ps_asg he.v (pg_sub ho.v hi.v (ps_stoR (by omega)) ?_) ?_).imp fun D σ H ⟨ρ, h, J, re, rh, q⟩ => ?_
  · intro v; cases i <;> first | rfl | cases hn
  · cases e <;> rfl
  refine (PostS.step (R1 := rD X.K) (f := p.v) re rh q).mono fun x H1 ⟨J1, h1, dx, e1, re1, rh1, rx, q1⟩ => ?_
  refine (PostS.step (R1 := rD X.K) (f := po.v) re1 rh1 q1).mono fun y H2 ⟨J2, h2, dy, e2, re2, rh2, ry, q2⟩ => ?_
  refine (PostS.step (R1 := rD X.K) (f := pi.v) re2 rh2 q2).mono fun z H3 ⟨J3, h3, dz, e3, re3, rh3, rz, q3⟩ => ?_
  cases hs : stoOp dy dz dx h3 with
  | none => rw [hs] at q3; exact False.elim q3
  | some h4 =>
    rw [hs] at q3
    exact ⟨J3, h3, dy, dz, dx, h4, rh3, ry.ext e3, rz, (rx.ext e2).ext e3, hs, fun J4 H4 e4 rh4 => q3 J4 H4 σ e4 (re3.ext e4) rh4⟩
def rAug (K : PySem.W.Frag) (o : BOp) : TIp := fun x y H Q => ∃ J dx dy d, RD K J H dx x ∧ RD K J H dy y ∧ augOp o dx dy = some d ∧ ∀ v, RD K J H d v → Q v H
def augM : BOp → Operator → Bool
  | .add, .Add => true
  | .sub, .Sub => true
  | .fdiv, .FloorDiv => true
  | .mod, .Mod => true
  | _, _ => false
theorem augM_ok {o : BOp} {op : Operator} (h : augM o op = true) : PIp X op (rAug X.K o) := by
  unfold augM at h
  split at h
  · intro pins s σ H x y v u Q I rx ry ⟨J, dx, dy, d, r1, r2, e, q⟩
    simp only [augOp] at e
    split at e
    · cases e; cases r1; cases r2
      exact iop_add pins s σ H _ _ v u Q I rx ry ⟨_, _, rfl, rfl, q _ (.int _)⟩
    · cases r1; cases r2
      split at e
      · rename_i hz; cases e
        exact iop_add_str pins s σ H _ _ v u Q I rx ry ⟨_, _, rfl, rfl, size_of hz, q _ (.str _)⟩
      · cases e
    · cases e
  · intro pins s σ H x y v u Q I rx ry ⟨J, dx, dy, d, r1, r2, e, q⟩
    simp only [augOp] at e
    split at e
    · cases e; cases r1; cases r2
      exact iop_sub pins s σ H _ _ v u Q I rx ry ⟨_, _, rfl, rfl, q _ (.int _)⟩
    · cases e
  · intro pins s σ H x y v u Q I rx ry ⟨J, dx, dy, d, r1, r2, e, q⟩
    simp only [augOp] at e
    split at e
    · cases r1; cases r2
      split at e
      · rename_i hz; cases e
        exact iop_fdiv pins s σ H _ _ v u Q I rx ry ⟨_, _, rfl, rfl, hz, q _ (.int _)⟩
      · cases e
    · cases e
  · intro pins s σ H x y v u Q I rx ry ⟨J, dx, dy, d, r1, r2, e, q⟩
    simp only [augOp] at e
    split at e
    · cases r1; cases r2
      split at e
      · rename_i hz; cases e
        exact iop_mod pins s σ H _ _ v u Q I rx ry ⟨_, _, rfl, rfl, hz, q _ (.int _)⟩
      · cases e
    · cases e
  · cases h
theorem ss_aug {i : Nat} {y : Str} {o : BOp} {op : Operator} (hN : X.N.Nodup) (hi : X.N[i]? = some y) (hx : L2.Loc X.env.scope y) (hf : X.fn y = true ∨ X.env.scope.names.lookup y = some .local) (ho : augM o op = true) (he : SE X e p) :
    PS X (.AugAssign (.Name y pos') op e pos) (tS (kw X W) fun ρ h => match ρ[i]? with
    | some (some x) => (p.v ρ h).then_ fun y h1 => match augOp o x y with
      | some z => .nxt (ρ.set i (some z)) h1
      | none => .bad
    | _ => .bad) := by
  refine (ps_aug hN hi hx he.v (augM_ok ho) hf).imp fun D σ H ⟨ρ, h, J, re, rh, q⟩ => ?_
  dsimp only at q
  cases e0 : ρ[i]? with
  | none => rw [e0] at q; exact False.elim q
  | some od =>
    cases od with
    | none => rw [e0] at q; exact False.elim q
    | some d =>
      rw [e0] at q
      obtain ⟨v, hv, rd⟩ := re.get i d e0
      refine ⟨v, hv, ?_⟩
      refine (PostS.step (R1 := rD X.K) (f := p.v) re rh q).mono fun x H1 ⟨J1, h1, dx, e1, re1, rh1, rx, q1⟩ => ?_
      cases ha : augOp o d dx with
      | none => rw [ha] at q1; exact False.elim q1
      | some z =>
        rw [ha] at q1
        exact ⟨J1, d, dx, z, rd.ext e1, rx, ha, fun w rw' => q1 J1 H1 _ Ext.refl (re1.set i rw') rh1⟩
/-- name += a list -/
def rAugL (K : PySem.W.Frag) (h : Hh) (r : Nat) (dy : D) : TIp := fun x y H Q => ∃ J h', RH K J h H ∧ RD K J H (.ref r) x ∧ RD K J H dy y ∧ augLOp r dy h = some h' ∧ ∀ J' H', Ext J H J' H' → RH K J' h' H' → Q x H'
theorem augL_ok {K0 : PySem.W.Frag} (hK : X.K = K0) : PIp X .Add (fun x y H Q => ∃ h r dy, rAugL K0 h r dy x y H Q) := by
  subst hK
  intro pins s σ H x y v u Q I rx ry ⟨h, r, dy, J, h', rh, r1, r2, e, q⟩
  cases r1 with
  | @ref _ a q1 =>
    obtain ⟨ob, w, h1, h2, h3⟩ := rh.at q1
    unfold augLOp at e
    rw [h1] at e
    cases h3 with
    | @lst ds vs z rr =>
      cases eo : dy.own h with
      | none => rw [eo] at e; cases e
      | some ys =>
        rw [eo] at e
        dsimp only at e
        split at e
        · rename_i hz
          cases e
          obtain ⟨b, ws, rfl, hb, zb, rb⟩ := own_inv rh eo r2
          have hlen : vs.length + ws.length ≤ sizeLine := by rw [← rr.length, ← rb.length]; exact size_of hz
          exact iop_ext pins s σ H _ _ v u Q I rx ry ⟨a, b, vs, ws, rfl, rfl, h2, hb, hlen, q J _ (Ext.write q1) (rh.writeL q1 (by rw [List.length_append]; exact hlen) (rr.append rb))⟩
        · cases e
    | dct z rr => cases dy.own h <;> cases e
    | tb _ _ => cases dy.own h <;> cases e
theorem ss_augL {i : Nat} {y : Str} (hN : X.N.Nodup) (hi : X.N[i]? = some y) (hx : L2.Loc X.env.scope y) (hf : X.fn y = true ∨ X.env.scope.names.lookup y = some .local) (he : SE X e p) :
    PS X (.AugAssign (.Name y pos') .Add e pos) (tS (kw X W) fun ρ h => match ρ[i]? with
    | some (some (.ref r)) => (p.v ρ h).then_ fun y h1 => match augLOp r y h1 with
      | some h2 => .nxt (ρ.set i (some (.ref r))) h2
      | none => .bad
    | _ => .bad) := by
  refine (ps_aug hN hi hx he.v (augL_ok rfl) hf).imp fun D σ H ⟨ρ, h, J, re, rh, q⟩ => ?_
  dsimp only at q
  cases e0 : ρ[i]? with
  | none => rw [e0] at q; exact False.elim q
  | some od =>
    cases od with
    | none => rw [e0] at q; exact False.elim q
    | some d =>
      rw [e0] at q
      cases d with
      | ref r =>
        dsimp only at q
        obtain ⟨v, hv, rd⟩ := re.get i _ e0
        refine ⟨v, hv, ?_⟩
        refine (PostS.step (R1 := rD X.K) (f := p.v) re rh q).mono fun x H1 ⟨J1, h1, dx, e1, re1, rh1, rx, q1⟩ => ?_
        cases ha : augLOp r dx h1 with
        | none => rw [ha] at q1; exact False.elim q1
        | some h2 =>
          rw [ha] at q1
          exact ⟨h1, r, dx, J1, h2, rh1, rd.ext e1, rx, ha, fun J2 H2 e2 rh2 => q1 J2 H2 _ e2 ((re1.ext e2).set i ((rd.ext e1).ext e2)) rh2⟩
      | _ => exact False.elim q
/-- name = [..] -/
theorem ss_asgLc {i : Nat} {y : Str} {py sp : Pos} {elt tg iter : Expr} {ifs : List Expr} {scope : Scope} {own : List (Str × Nat)} {t : Tg} {f : Env → Hh → R Src} {v' : Env → Hh → R D} (hc : X.calm = true) (hN : X.N.Nodup) (hy : X.N[i]? = some y) (hyl : X.env.scope.names.lookup y = some .local)
    (hk : X.env.scope.kind = .function) (hl : (py.line == pos.line) = true) (hsh : (scope.names.any fun (n, k) => n == y && (k == .local || k == .cell)) = false) (hi : PI X tg iter (tI X.K f)) (ok : BlkOk X.N X.env.scope scope own) (hown : own.map (·.2) = t.slots)
    (hg : ∀ (s : Shared) (H : Hp) (C : Addr) (cl : List (Str × Addr)) (fp : List Addr), ST (X.blk s H scope (compEnvC scope cl C X.env) fp) tg t t.slots)
    (ht : ∀ (s : Shared) (H : Hp) (C : Addr) (cl : List (Str × Addr)) (fp : List Addr), PTs (X.blk s H scope (compEnvC scope cl C X.env) fp) ifs (tG X.K rB pc.t))
    (he : ∀ (s : Shared) (H : Hp) (C : Addr) (cl : List (Str × Addr)) (fp : List Addr), PE (X.blk s H scope (compEnvC scope cl C X.env) fp) elt (tG X.K (rD X.K) p.v)) (hs : ∀ x, foldedSetIterable iter X.env x = pure x)
    (hv : ∀ {σ : L2.St} {H : Hp} {Q : VK}, tG X.K (rD X.K) v' σ H Q → tF X.K (fun ρ h => (f ρ h).bind fun s h1 => if sizeOk s.items.length then lcLoop s.good (lcTurn t pc p ρ) s.items [] h1 else .bad) σ H Q) :
    PS X (.Assign [.Name y py] (.ListComp elt [⟨tg, iter, ifs, 0⟩] scope pos) sp) (tS (kw X W) fun ρ h => (v' ρ h).then_ fun x h1 => .nxt (ρ.set i (some x)) h1) := by
  refine (ps_setLc (g := gD X.K t t.slots) (tt := tG X.K rB pc.t) (te := tG X.K (rD X.K) p.v) hc hN hy hyl (sw_true hk hyl hl hsh) hi ok (fun s H C cl fp => (hg s H C cl fp).run) ht he hs).imp fun D σ H ⟨ρ, h, J, re, rh, q⟩ => ?_
  rw [hown]
  refine lc_read (hv ?_)
  exact (PostS.step (R1 := rD X.K) (f := v') re rh q).mono fun x H1 ⟨J1, h1, dx, e1, re1, rh1, rx, q1⟩ => q1 J1 H1 _ Ext.refl (re1.set i rx) rh1
end
end PV
end

section
set_option maxRecDepth 100000
/-! PvT: a, b = x, y within an except suite. -/
namespace PV
open L2 PySem PySem.Spec PyProof.Rows
section
variable {w : World} {prog : Program} {A : Around} {E : Value → Shared → Prop} {s : Shared}
theorem hot_end {it t x1 : Addr} {i : Nat} {items : Array Value} {Q : Option Value → Shared → Prop} (hot : HotX.HotAt A x1 s.heap) (hne : x1 ≠ it) (hit : IsTupIter s.heap it t i) (ht : IsTup s.heap t items) (hx : items[i]? = none) (hQ : ∀ h', Heap.ExtBut it s.heap h' → Q none { s with heap := h' }) : wpAny (model prog w) A (pyNext (.ref it)) Q E s := by
  (obtain ⟨o, ho, hc, hd⟩ := id hit)
  (obtain ⟨ol, hol, _, nl, hdl⟩ := ht)
  (obtain ⟨hh, o1, vs1, h1, d1, c1⟩ := hot)
  unfold pyNext
  refine wpAny_bind (wpAny_attempt (wpAny_callSpecial?_slot (name := Str.ofString "__next__") hit.typeIs slot_tupleiter_next (wpAny_call_entry slot_tupleiter_next hit.typeIs entry_tupleiter_next ?_ (args_tupleiter_next _))))
  (show wpAny _ _ (field (.ref it) 0 >>= _) _ _ s)
  (refine wpAny_bind (wpAny_field ho hd (x := .ref t) rfl ?_))
  (show wpAny _ _ (if (Value.ref t == Value.none) = true then _ else _) _ _ s)
  (rw [if_neg (show ¬ ((Value.ref t == Value.none) = true) from Bool.false_ne_true)])
  (show wpAny _ _ (field (.ref it) 1 >>= _) _ _ s)
  (refine wpAny_bind (wpAny_field ho hd (x := .int i 0) rfl ?_))
  (show wpAny _ _ (seqItems? (.ref t) >>= _) _ _ s)
  (refine wpAny_bind (wpAny_seqItems hol hdl ?_))
  (simp only [Int.toNat_natCast, hx])
  (refine wpAny_bind (wpAny_rule (wpAny_bind (wpAny_setField ho hd (by simp) ?_))))
  have h2 : (s.heap.update it (Obj.mapFields (·.setIfInBounds 0 .none))).get? x1 = some o1 := by
    rw [Heap.get?_update_other _ _ (Ne.symm hne)]
    exact h1
  (show wpAny _ _ (newExc (.type "StopIteration") [] >>= _) _ _ _)
  refine wpAny_bind ?_
  simp only [newExc, newTuple]
  (refine wpAny_bind (wpAny_newObj_type ?_ (by size_fits)))
  (refine wpAny_bind (m := firstArgMember _ _) (wpAny_of_eq (a := Value.none) (by first | rfl | (simp only [firstArgMember]; rfl)) ?_))
  (refine wpAny_newObj_type ?_ (by size_fits))
  refine HotX.raiseNew_hot ⟨hh, o1, vs1, Heap.get?_push_of_some _ (Heap.get?_push_of_some _ h2), d1, c1⟩ (Nat.ne_of_lt (Heap.lt_size (Heap.get?_push_of_some _ h2))) (Heap.get?_push_size _ rfl) rfl (by first | (simp; done) | (simp; omega) | (simp only [Array.size_append]; simp; omega)) ?_
  (refine wpAny_bind (wpAny_isInstance (T := "StopIteration") (b := true) ⟨_, Heap.get?_update_self _ (Heap.get?_push_size _ rfl) rfl, rfl⟩ isSubtype_stop ?_))
  (refine wpAny_pure (hQ _ fun b o hb e => ?_))
  have e2 : (s.heap.update it (Obj.mapFields (·.setIfInBounds 0 .none))).get? b = some o := by
    rw [Heap.get?_update_other _ _ (Ne.symm hb)]
    exact e
  rw [Heap.get?_update_other _ _ (Nat.ne_of_gt (Heap.lt_size (Heap.get?_push_of_some _ e2)))]
  exact Heap.get?_push_of_some _ (Heap.get?_push_of_some _ e2)
theorem hot_unpack {t x1 : Addr} {items : Array Value} {Q : List Value → Shared → Prop} (hot : HotX.HotAt A x1 s.heap) (ht : IsTup s.heap t items) (hQ : ∀ h', Heap.ExtBut s.heap.objs.size s.heap h' → Q items.toList { s with heap := h' }) : wpAny (model prog w) A (unpackItems (.ref t) items.size none) Q E s := by
  (have hlt : t ≠ s.heap.objs.size := by obtain ⟨o, ho, _⟩ := ht; exact Nat.ne_of_lt (Heap.lt_size ho))
  (obtain ⟨hh, o1, vs1, h1, d1, c1⟩ := hot)
  unfold unpackItems
  refine wpAny_bind ?_
  · unfold notIterableAtAll
    (refine wpAny_bind (wpAny_specialOf ht.typeIs slot_tuple_iter.lookup ?_))
    refine wpAny_pure ?_
    (simp only [Bool.false_eq_true, if_false])
    (refine wpAny_bind (wpAny_holding (iter_tuple ht ?_)))
    (refine wpAny_bind (wpAny_holding (draw_tuple hlt items.size 0 _ _ ⟨_, Heap.get?_push_size _ rfl, rfl, rfl⟩ (ht.push _) (by omega) fun h₁ hit₁ hs₁ => ?_)))
    have whole : List.take items.size (List.drop 0 items.toList) = items.toList := by
      (rw [List.drop_zero]; exact List.take_of_length_le (by simp))
    rw [whole]
    rw [if_neg (by simp)]
    (have ht₁ : IsTup h₁ t items := (ht.push _).extBut hs₁.extBut hlt)
    have nx : x1 ≠ s.heap.objs.size := Nat.ne_of_lt (Heap.lt_size h1)
    refine wpAny_bind (wpAny_holding (hot_end (x1 := x1) ⟨hh, o1, vs1, hs₁.extBut x1 o1 nx (Heap.get?_push_of_some _ h1), d1, c1⟩ nx hit₁ ht₁ (by simp) fun h₂ he₂ => ?_))
    (simp only [Option.isSome_none, Bool.false_eq_true, if_false])
    (refine wpAny_pure (hQ h₂ fun b o hb e => he₂ b o hb (hs₁.extBut b o hb (Heap.get?_push_of_some _ e))))
end
end PV
namespace PV
open L2 PySem PySem.Spec PyProof.Rows
section
variable {X : Cx} {W : WX} {a b : Expr} {pa pb : P} {pos : Pos}
/-- the exception that is handled is known -/
def tParH (X : Cx) (i j : Nat) (ta : TA) : TS := fun D σ H => ta σ H fun vs H1 => ∃ v w x cls d, vs = [v, w] ∧ X.A.handled = some (.ref x) ∧ H1 x = some (ExD cls d x) ∧ D.nx ((σ.set i (some v)).set j (some w)) H1
theorem ps_parH {i j : Nat} {x y : Str} {a b : Expr} {ta : TA} {px py pt : Pos} {kt k2 : Nat} {pt2 : Pos} (hN : X.N.Nodup) (hi : X.N[i]? = some x) (hj : X.N[j]? = some y) (hij : i ≠ j) (hx : X.env.scope.names.lookup x = some .local) (hy : X.env.scope.names.lookup y = some .local) (ha : PA X [a, b] ta) (hw : swappedStores [.Tuple [.Name x px, .Name y py] kt pt] (.Tuple [a, b] k2 pt2) X.env = pure (some [x, y])) (hs : swapsWithSole [.Tuple [.Name x px, .Name y py] kt pt] (.Tuple [a, b] k2 pt2) pos.line X.env = pure false := by rfl) :
    PS X (.Assign [.Tuple [.Name x px, .Name y py] kt pt] (.Tuple [a, b] k2 pt2) pos) (tParH X i j ta) := by
  (refine ⟨fun pins s σ H D I h => ?_⟩)
  rw [exec_Assign_arm]
  (refine wpAny_bind (wpAny_standAt ?_))
  rw [hs]
  (refine wpAny_bind (wpAny_pure ?_))
  rw [if_neg (by decide)]
  (refine wpAny_bind (Tuple_ (thn (ha.run _ pins s σ H _ I h) fun us s1 ⟨vs, H1, I1, r1, q1⟩ => ?_)))
  obtain ⟨v, w, z, cls, d, e1, hh, ez, q1⟩ := q1
  subst e1
  obtain ⟨u1, u2, rfl, rv, rw'⟩ : (∃ u1 u2, us = [u1, u2] ∧ RelV v u1 ∧ RelV w u2) := by
    cases r1 with
    | cons p q =>
      cases q with
      | cons p' q' =>
        cases q'
        exact ⟨_, _, rfl, p, p'⟩
  obtain ⟨⟨ob, fl, qa, zn, rr⟩, _, _⟩ := (I1.hok z _ ez)
  (refine wpAny_newObj_type ?_ (by show 2 ≤ sizeLine; decide))
  (have I2 : Inv X pins σ H1 { s1 with heap := s1.heap.push { cls := .type "tuple", data := .seq [u1, u2].toArray } } := I1.kept (t' := s1.toks) fun b o e => Heap.get?_push_of_some _ e)
  rw [hw]
  (refine wpAny_bind (wpAny_pure ?_))
  (show wpAny (model X.prog X.w) X.A (do rule "assign.swapped-stores"; let items ← unpackItems (.ref s1.heap.objs.size) 2 none; assignInOrder [fun v => bindName X.env y v, fun v => bindName X.env x v] items.reverse; pure Flow.next) _ _ _)
  refine wpAny_bind (wpAny_rule (wpAny_bind (hot_unpack (x1 := z) (items := #[u1, u2]) ⟨hh, ob, fl, Heap.get?_push_of_some _ qa, rr, zn.2.2 fl rr⟩ (IsTup.new s1.heap _) fun h' hx' => ?_)))
  (have I3 := I2.kept (h' := h') (t' := s1.toks) fun b o e => hx' b o (Nat.ne_of_lt (Heap.lt_size e)) e)
  (show wpAny _ _ (assignInOrder [fun v => bindName X.env y v, fun v => bindName X.env x v] [u2, u1] >>= fun _ => pure Flow.next) _ _ _)
  (refine wpAny_bind (assignInOrder_cons (wpAny_bindName (store_ok I3 hN hj (.inl hy) rw' (fun s2 I4 => ?_) (.inr hy)))))
  (refine assignInOrder_cons (wpAny_bindName (store_ok I4 hN hi (.inl hx) rv (fun s3 I5 => assignInOrder_nil (wpAny_pure ?_)) (.inr hx))))
  (rw [List.set_comm _ _ (Ne.symm hij)] at I5)
  exact ⟨_, H1, I5, q1⟩
/-- what is wanted ahead of a suite's first statement -/
def tH (κ : KW) (z : Addr) (f : Env → Hh → RS) : TS := fun D σ H => ∃ ρ h J, RE κ.K J H ρ σ ∧ RH κ.K J h H ∧ (z ∉ J.l ∧ ∃ cls d, H z = some (ExD cls d z)) ∧ PostS κ J H (f ρ h) D
theorem tH.drop {κ : KW} {z : Addr} {f : Env → Hh → RS} {D : Ends} {σ : L2.St} {H : Hp} (t : tH κ z f D σ H) : tS κ f D σ H := let ⟨ρ, h, J, re, rh, _, q⟩ := t; ⟨ρ, h, J, re, rh, q⟩
theorem ss_parH {z : Addr} {i j : Nat} {x y : Str} {px py tp vp : Pos} {k k2 : Nat} (hh : X.A.handled = some (.ref z)) (hN : X.N.Nodup) (hi : X.N[i]? = some x) (hj : X.N[j]? = some y) (hij : i ≠ j) (hk : X.env.scope.kind = .function) (hx : X.env.scope.names.lookup x = some .local) (hy : X.env.scope.names.lookup y = some .local) (hne : x ≠ y) (hl : (py.line == px.line) = true) (hpa : plainX a = true) (hpb : plainX b = true) (hf : (foldedForSure 8 a && foldedForSure 8 b) = false) (hcn : (constantsAlone 8 a && constantsAlone 8 b) = false)
    (ha : SE X a pa) (hb : SE X b pb) :
    PS X (.Assign [.Tuple [.Name x px, .Name y py] k tp] (.Tuple [a, b] k2 vp) pos) (tH (kw X W) z fun ρ h => (pa.v ρ h).then_ fun x h1 => (pb.v ρ h1).then_ fun y h2 => .nxt ((ρ.set i (some x)).set j (some y)) h2) := by
  refine (ps_parH hN hi hj hij hx hy (pa_cons ha.v (pa_cons hb.v pa_nil (plain_star hpb _ _)) (plain_star hpa _ _)) (swapped_two hk hx hy hne hl hpa hpb hf hcn)).imp fun D σ H ⟨ρ, h, J, re, rh, ⟨nl, cls, d, ez⟩, q⟩ => ?_
  refine (PostS.step (R1 := rD X.K) (f := pa.v) re rh q).mono fun x H1 ⟨J1, h1, dx, e1, re1, rh1, rx, q1⟩ => ?_
  refine (PostS.step (R1 := rD X.K) (f := pb.v) re1 rh1 q1).mono fun y H2 ⟨J2, h2, dy, e2, re2, rh2, ry, q2⟩ => ?_
  have n1 : z ∉ J1.l := by
    obtain ⟨m, hm, hn⟩ := e1.pre
    rw [hm]
    intro mem
    rcases List.mem_append.mp mem with c | c
    · exact nl c
    · have := hn z c
      rw [ez] at this; cases this
  exact ⟨x, y, z, cls, d, rfl, hh, e2.keep _ _ n1 (e1.keep _ _ nl ez), q2 J2 H2 _ Ext.refl ((re2.set i (rx.ext e2)).set j ry) rh2⟩
end
end PV
end

section
set_option maxRecDepth 100000
set_option maxHeartbeats 1000001
namespace PV
open L2 PySem PySem.Spec PyProof.Rows

/-! ### the statements' forms -/
def stAsg : Stmt → Option (Str × Expr)
  | .Assign [.Name y _] e _ => some (y, e)
  | _ => none
def stAsgLc : Stmt → Option (Str × Expr × Expr × Expr × List Expr × Scope)
  | .Assign [.Name y py] (.ListComp elt [⟨tg, iter, ifs, a⟩] scope pos) _ => if a = 0 ∧ (py.line == pos.line) = true then some (y, elt, tg, iter, ifs, scope) else none
  | _ => none
def stPar : Stmt → Option (Str × Str × Expr × Expr)
  | .Assign [.Tuple [.Name x px, .Name y py] _ _] (.Tuple [a, b] _ _) _ => if (py.line == px.line) = true then some (x, y, a, b) else none
  | _ => none
def stUnp : Stmt → Option (List Expr × Expr)
  | .Assign [.Tuple es _ _] e _ => some (es, e)
  | _ => none
def stSto : Stmt → Option (Expr × Expr × Expr)
  | .Assign [.Subscript o i _] e _ => some (o, i, e)
  | _ => none
def stAug : Stmt → Option (Str × Operator × Expr)
  | .AugAssign (.Name y _) op e _ => some (y, op, e)
  | _ => none
def stExp : Stmt → Option Expr
  | .Expr e _ => some e
  | _ => none
def stRet : Stmt → Option Expr
  | .Return (some e) _ => some e
  | _ => none
def stRetN : Stmt → Bool
  | .Return none _ => true
  | _ => false
def stIf : Stmt → Option (Expr × List Stmt × List Stmt)
  | .If c a b _ => some (c, a, b)
  | _ => none
def stWhl : Stmt → Option (Expr × List Stmt)
  | .While c a [] _ => some (c, a)
  | _ => none
def stFor : Stmt → Option (Expr × Expr × List Stmt)
  | .For t i a [] _ => some (t, i, a)
  | _ => none
def stPass : Stmt → Bool
  | .Pass _ => true
  | _ => false
def stBrk : Stmt → Bool
  | .Break _ => true
  | _ => false
def stCnt : Stmt → Bool
  | .Continue _ => true
  | _ => false
section
variable {s : Stmt}
theorem stAsg_eq {y : Str} {e : Expr} (h : stAsg s = some (y, e)) : ∃ p q, s = .Assign [.Name y p] e q := by
  unfold stAsg at h; split at h
  · cases h; exact ⟨_, _, rfl⟩
  · cases h
theorem stAsgLc_eq {y : Str} {elt tg iter : Expr} {ifs : List Expr} {scope : Scope} (h : stAsgLc s = some (y, elt, tg, iter, ifs, scope)) : ∃ py pos q, s = .Assign [.Name y py] (.ListComp elt [⟨tg, iter, ifs, 0⟩] scope pos) q ∧ (py.line == pos.line) = true := by
  unfold stAsgLc at h; split at h
  · split at h
    · rename_i hc; cases h; obtain ⟨rfl, hl⟩ := hc; exact ⟨_, _, _, rfl, hl⟩
    · cases h
  · cases h
theorem stPar_eq {x y : Str} {a b : Expr} (h : stPar s = some (x, y, a, b)) : ∃ px py k tp k2 vp q, s = .Assign [.Tuple [.Name x px, .Name y py] k tp] (.Tuple [a, b] k2 vp) q ∧ (py.line == px.line) = true := by
  unfold stPar at h; split at h
  · split at h
    · rename_i hc; cases h; exact ⟨_, _, _, _, _, _, _, rfl, hc⟩
    · cases h
  · cases h
theorem stUnp_eq {es : List Expr} {e : Expr} (h : stUnp s = some (es, e)) : ∃ k tp q, s = .Assign [.Tuple es k tp] e q := by
  unfold stUnp at h; split at h
  · cases h; exact ⟨_, _, _, rfl⟩
  · cases h
theorem stSto_eq {o i e : Expr} (h : stSto s = some (o, i, e)) : ∃ p q, s = .Assign [.Subscript o i p] e q := by
  unfold stSto at h; split at h
  · cases h; exact ⟨_, _, rfl⟩
  · cases h
theorem stAug_eq {y : Str} {op : Operator} {e : Expr} (h : stAug s = some (y, op, e)) : ∃ p q, s = .AugAssign (.Name y p) op e q := by
  unfold stAug at h; split at h
  · cases h; exact ⟨_, _, rfl⟩
  · cases h
theorem stExp_eq {e : Expr} (h : stExp s = some e) : ∃ q, s = .Expr e q := by
  unfold stExp at h; split at h
  · cases h; exact ⟨_, rfl⟩
  · cases h
theorem stRet_eq {e : Expr} (h : stRet s = some e) : ∃ q, s = .Return (some e) q := by
  unfold stRet at h; split at h
  · cases h; exact ⟨_, rfl⟩
  · cases h
theorem stRetN_eq (h : stRetN s = true) : ∃ q, s = .Return none q := by
  unfold stRetN at h; split at h
  · exact ⟨_, rfl⟩
  · cases h
theorem stIf_eq {c : Expr} {a b : List Stmt} (h : stIf s = some (c, a, b)) : ∃ q, s = .If c a b q := by
  unfold stIf at h; split at h
  · cases h; exact ⟨_, rfl⟩
  · cases h
theorem stWhl_eq {c : Expr} {a : List Stmt} (h : stWhl s = some (c, a)) : ∃ q, s = .While c a [] q := by
  unfold stWhl at h; split at h
  · cases h; exact ⟨_, rfl⟩
  · cases h
theorem stFor_eq {t i : Expr} {a : List Stmt} (h : stFor s = some (t, i, a)) : ∃ q, s = .For t i a [] q := by
  unfold stFor at h; split at h
  · cases h; exact ⟨_, rfl⟩
  · cases h
theorem stPass_eq (h : stPass s = true) : ∃ q, s = .Pass q := by
  unfold stPass at h; split at h
  · exact ⟨_, rfl⟩
  · cases h
theorem stBrk_eq (h : stBrk s = true) : ∃ q, s = .Break q := by
  unfold stBrk at h; split at h
  · exact ⟨_, rfl⟩
  · cases h
theorem stCnt_eq (h : stCnt s = true) : ∃ q, s = .Continue q := by
  unfold stCnt at h; split at h
  · exact ⟨_, rfl⟩
  · cases h
end
def Cs.lcl (c : Cs) (x : Str) : Bool := decide (c.sc.names.lookup x = some .local)
def Cs.cel (c : Cs) (x : Str) : Bool := decide (c.sc.names.lookup x = some .cell)
def celTwo (c : Cs) (es : List Expr) : Bool := es.any fun e => match asName e with
  | some x => c.cel x
  | none => false
theorem celTwo_ok {c : Cs} {es : List Expr} {e : Expr} {k : Nat} {tp : Pos} {env : PySem.Env} (hs : env.scope = c.sc) (h : celTwo c es = true) : swappedStores [.Tuple es k tp] e env = pure none := by
  obtain ⟨y, hy, hc⟩ := List.any_eq_true.mp h
  split at hc
  · rename_i x hx
    obtain ⟨p, rfl⟩ := asName_eq hx
    exact swapped_cel ⟨_, hy, x, p, rfl, by rw [hs]; exact of_decide_eq_true hc⟩
  · cases hc
def foldTwo (x : Expr) : Bool := match asTup x with
  | some vs => vs.all (foldedForSure 8)
  | none => false
theorem swapped_fold {es : List Expr} {x : Expr} {k : Nat} {tp : Pos} {env : PySem.Env} (h : foldTwo x = true) : swappedStores [.Tuple es k tp] x env = pure none := by
  unfold foldTwo at h
  split at h
  · rename_i vs hx
    obtain ⟨k2, vp, rfl⟩ := asTup_eq hx
    unfold swappedStores
    dsimp only
    split
    · rfl
    · split
      · rfl
      · split
        · rfl
        · first | (rw [if_pos h]; rfl) | (simp only [h, if_true]; rfl) | simp [h]
  · cases h
def Cs.isF (c : Cs) : Bool := decide (c.sc.kind = .function)
/-- a list comprehension that is bound to a name -/
def mLc (c : Cs) (y : Str) (elt tg iter : Expr) (ifs : List Expr) (scope : Scope) : E → Bool
  | .lc t it d e => blkC c.N c.sc scope (c.own t) && mI c it tg iter && plainX iter && mT (c.blk scope) t tg && mE (c.blk scope) e elt && (match ifs with
      | [] => d.isMiss
      | [i] => mE (c.blk scope) d i
      | _ => false) && c.isF && c.lcl y && !(scope.names.any fun (n, k) => n == y && (k == .local || k == .cell))
  | _ => false
def E.body : E → E
  | .new e => e
  | e => e
def stRaise : Stmt → Option Str
  | .Raise (some (.Call (.Name x _) [.Constant (.str _) _ _] [] _)) none _ => some x
  | _ => none
theorem stRaise_eq {s : Stmt} {x : Str} (h : stRaise s = some x) : ∃ p m j p2 p3 p4, s = .Raise (some (.Call (.Name x p) [.Constant (.str m) j p2] [] p3)) none p4 := by
  unfold stRaise at h; split at h
  · cases h; exact ⟨_, _, _, _, _, _, rfl⟩
  · cases h
def stRaiseE : Stmt → Option (Str × Expr)
  | .Raise (some (.Call (.Name x _) [e] [] _)) none _ => some (x, e)
  | _ => none
theorem stRaiseE_eq {s : Stmt} {x : Str} {e : Expr} (h : stRaiseE s = some (x, e)) : ∃ p p3 p4, s = .Raise (some (.Call (.Name x p) [e] [] p3)) none p4 := by
  unfold stRaiseE at h; split at h
  · cases h; exact ⟨_, _, _, rfl⟩
  · cases h
def stTry : Stmt → Option (List Stmt × Str × List Stmt)
  | .Try body [.ExceptHandler (some (.Name x _)) none (b :: suite) _] [] [] _ => some (body, x, b :: suite)
  | _ => none
theorem stTry_eq {s : Stmt} {body suite : List Stmt} {x : Str} (h : stTry s = some (body, x, suite)) : ∃ p b sr p2 p3, suite = b :: sr ∧ s = .Try body [.ExceptHandler (some (.Name x p)) none (b :: sr) p2] [] [] p3 := by
  unfold stTry at h; split at h
  · cases h; exact ⟨_, _, _, _, _, rfl, rfl⟩
  · cases h
/-- within a suite -/
def Cs.heat (c : Cs) : Cs := { c with hot := true }
def stTryAs : Stmt → Option (List Stmt × Str × Str × List Stmt)
  | .Try body [.ExceptHandler (some (.Name x _)) (some n) (b :: suite) _] [] [] _ => some (body, x, n, b :: suite)
  | _ => none
theorem stTryAs_eq {s : Stmt} {body suite : List Stmt} {x n : Str} (h : stTryAs s = some (body, x, n, suite)) : ∃ p b sr p2 p3, suite = b :: sr ∧ s = .Try body [.ExceptHandler (some (.Name x p)) (some n) (b :: sr) p2] [] [] p3 := by
  unfold stTryAs at h; split at h
  · cases h; exact ⟨_, _, _, _, _, rfl, rfl⟩
  · cases h
def parB (c : Cs) (i j : Nat) (a b : E) (st : Stmt) : Bool := match stPar st with
  | some (x, y, ea, eb) => decide (c.N[i]? = some x) && decide (c.N[j]? = some y) && decide (i ≠ j) && c.isF && c.lcl x && c.lcl y && decide (x ≠ y) && plainX ea && plainX eb && !(foldedForSure 8 ea && foldedForSure 8 eb) && !(constantsAlone 8 ea && constantsAlone 8 eb) && mE c.heat a ea && mE c.heat b eb
  | none => false
mutual
def mS (c : Cs) : S → Stmt → Bool
  | .asg i e, s => match stAsg s with
    | some (y, x) => c.loc i y && mayAsg (c.cel y) x && mE c e x
    | none => false
  | .asgLc i e, s => match coolO c (stAsgLc s) with
    | some (y, elt, tg, iter, ifs, scope) => decide (c.N[i]? = some y) && mLc c y elt tg iter ifs scope e.body
    | none => false
  | .par i j a b, s => match coolO c (stPar s) with
    | some (x, y, ea, eb) => decide (c.N[i]? = some x) && decide (c.N[j]? = some y) && decide (i ≠ j) && c.isF && c.lcl x && c.lcl y && decide (x ≠ y) && plainX ea && plainX eb && !(foldedForSure 8 ea && foldedForSure 8 eb) && !(constantsAlone 8 ea && constantsAlone 8 eb) && mE c a ea && mE c b eb
    | none => false
  | .unp is e, s => match coolO c (stUnp s) with
    | some (es, x) => mVs c is es && notComp x && ((asTup x).isNone || (celTwo c es || foldTwo x)) && mE c e x
    | none => false
  | .sto o i e, s => match stSto s with
    | some (eo, ei, x) => plainX ei && mE c o eo && mE c i ei && mE c e x
    | none => false
  | .aug i o e, s => match stAug s with
    | some (y, op, x) => c.loc i y && augM o op && mE c e x
    | none => false
  | .augL i e, s => match stAug s with
    | some (y, op, x) => match op with
      | .Add => c.loc i y && mE c e x
      | _ => false
    | none => false
  | .exp e, s => match stExp s with
    | some x => notComp x && mE c e x
    | none => false
  | .ret e, s => match stRet s with
    | some x => mE c e x
    | none => false
  | .retN, s => stRetN s
  | .ite t a b, s => match stIf s with
    | some (x, as, bs) => mE c t x && mSs c a as && mSs c b bs
    | none => false
  | .whl t b, s => match coolO c (stWhl s) with
    | some (x, bs) => mE c t x && mSs c b bs
    | none => false
  | .for_ t it b, s => match coolO c (stFor s) with
    | some (tg, x, bs) => mT c t tg && mI c it tg x && plainX x && mSs c b bs
    | none => false
  | .pass, s => stPass s
  | .brk, s => stBrk s
  | .cnt, s => stCnt s
  | .gc _ b, s => mS c b s
  | .asgC i f es, s => match coolO c (stAsg s) with
    | some (y, x) => c.loc i y && mE c (.call f es) x
    | none => false
  | .expC f es, s => match coolO c (stExp s) with
    | some x => mE c (.call f es) x
    | none => false
  | .retC f es, s => match coolO c (stRet s) with
    | some x => mE c (.call f es) x
    | none => false
  | .raise_ k, s => match coolO c (stRaise s) with
    | some y => decide (y = k) && decide (k ∈ c.xs) && c.glb k
    | none => false
  | .try_ b k yes no su, s => match coolO c (stTry s) with
    | some (body, y, suite) => decide (y = k) && c.xn k && c.glb k && mSs c b body && mSs c.heat su suite && (yes.all fun x => decide ((x, k, true) ∈ c.xm.m)) && (no.all fun x => decide ((x, k, false) ∈ c.xm.m))
    | none => false
  | .tryAs b k yes no i su, s => match coolO c (stTryAs s) with
    | some (body, y, n, suite) => decide (y = k) && c.xn k && c.glb k && decide (c.N[i]? = some n) && c.lcl n && mSs c b body && mSs c.heat su suite && (yes.all fun x => decide ((x, k, true) ∈ c.xm.m)) && (no.all fun x => decide ((x, k, false) ∈ c.xm.m))
    | none => false
  | .tryAP b k yes no i i1 j1 a1 b1 su, s => match coolO c (stTryAs s) with
    | some (body, y, n, st :: sts) => decide (y = k) && c.xn k && c.glb k && decide (c.N[i]? = some n) && c.lcl n && mSs c b body && parB c i1 j1 a1 b1 st && mSs c.heat su sts && (yes.all fun x => decide ((x, k, true) ∈ c.xm.m)) && (no.all fun x => decide ((x, k, false) ∈ c.xm.m))
    | _ => false
  | .raiseE k e, s => match coolO c (stRaiseE s) with
    | some (y, x) => decide (y = k) && decide (k ∈ c.xs) && c.glb k && plainX x && mE c e x
    | none => false
  | .raiseF k f e, s => match coolO c (stRaiseE s) with
    | some (y, x) => decide (y = k) && decide ((k, f) ∈ c.xg) && decide (("super" : Str) ∈ c.bs) && c.glb k && plainX x && mE c e x
    | none => false
  | .bad, _ => true
def mSs (c : Cs) : Ss → List Stmt → Bool
  | .nil, [] => true
  | .cons s ss, st :: sts => mS c s st && mSs c ss sts
  | _, _ => false
end
structure OkS (c : Cs) (F : Fns) (G : List D) (X : Cx) (W : WX) : Prop extends Ok c F G X where
  pass : c.hot = false → PassesOwn (model X.prog X.w) X.A X.env X.xe
  takes : c.hot = false → L2N.Takes X W
  stk : X.stack = X.env :: X.outer
  frm : X.env.frame = some X.env.locals
section
variable {c : Cs} {F : Fns} {G : List D} {X : Cx} {W : WX}
theorem lcl_ok (o : Ok c F G X) {x : Str} (h : c.lcl x = true) : X.env.scope.names.lookup x = some .local := by rw [o.sc]; exact of_decide_eq_true h
theorem isF_ok (o : Ok c F G X) (h : c.isF = true) : X.env.scope.kind = .function := by rw [o.sc]; exact of_decide_eq_true h
theorem ss_lc {i : Nat} {y : Str} {py pos sp : Pos} {elt tg iter : Expr} {ifs : List Expr} {scope : Scope} (o : Ok c F G X) (hc0 : c.hot = false) : ∀ (e : E) {v' : Env → Hh → R D}, decide (c.N[i]? = some y) = true → mLc c y elt tg iter ifs scope e = true → (py.line == pos.line) = true →
    (∀ {σ : L2.St} {H : Hp} {Q : VK}, tG X.K (rD X.K) v' σ H Q → tF X.K (evE F G e).v σ H Q) →
    PS X (.Assign [.Name y py] (.ListComp elt [⟨tg, iter, ifs, 0⟩] scope pos) sp) (tS (kw X W) fun ρ h => (v' ρ h).then_ fun x h1 => .nxt (ρ.set i (some x)) h1)
  | .lc t it d e, v', hn, h, hl, hv => by
    simp only [mLc, Bool.and_eq_true, Bool.not_eq_true'] at h
    (obtain ⟨⟨⟨⟨⟨⟨⟨⟨h1, h2⟩, h3⟩, h4⟩, h5⟩, h6⟩, h7⟩, h8⟩, h9⟩ := h)
    refine ss_asgLc (pc := evE F G d) (p := evE F G e) (o.calm hc0) o.nd (by rw [o.hN]; exact of_decide_eq_true hn) (lcl_ok o h8) (isF_ok o h7) hl h9 (sI it o _ _ h2) (blkOk_by (by rw [o.hN, o.sc]; exact h1)) (own_snd t) (fun s H C cl fp => st_ok o.blk hc0 h4) (fun s H C cl fp => ?_) (fun s H C cl fp => (sE e o.blk _ h5).v) (plain_fold h3 _) hv
    split at h6
    · cases d with
      | miss => exact ⟨fun pins s σ H Q I ⟨ρ, h, J, re, rh, q⟩ => pts_nil.run pins s σ H Q I (q J H true Ext.refl rh rfl)⟩
      | _ => cases h6
    · exact pts_one (sE d o.blk _ h6).t
    · cases h6
  | .var _, _, _, h, _, _ => by cases h
  | .con _, _, _, h, _, _ => by cases h
  | .glo _, _, _, h, _, _ => by cases h
  | .miss, _, _, h, _, _ => by cases h
  | .tup _, _, _, h, _, _ => by cases h
  | .ftup _, _, _, h, _, _ => by cases h
  | .lst _, _, _, h, _, _ => by cases h
  | .new _, _, _, h, _, _ => by cases h
  | .dic0, _, _, h, _, _ => by cases h
  | .bin _ _ _, _, _, h, _, _ => by cases h
  | .neg _, _, _, h, _, _ => by cases h
  | .cmp _ _ _, _, _, h, _, _ => by cases h
  | .chain _ _ _ _ _, _, _, h, _, _ => by cases h
  | .and _ _, _, _, h, _, _ => by cases h
  | .or _ _, _, _, h, _, _ => by cases h
  | .not _, _, _, h, _, _ => by cases h
  | .ite _ _ _, _, _, h, _, _ => by cases h
  | .idx _ _, _, _, h, _, _ => by cases h
  | .slc _ _ _, _, _, h, _, _ => by cases h
  | .call _ _, _, _, h, _, _ => by cases h
  | .callK _ _ _ _, _, _, h, _, _ => by cases h
  | .isi _ _, _, _, h, _, _ => by cases h
  | .tenum _, _, _, h, _, _ => by cases h
  | .sset _, _, _, h, _, _ => by cases h
  | .dcl _ _ _ _ _, _, _, h, _, _ => by cases h
  | .trng _, _, _, h, _, _ => by cases h
  | .isi2 _, _, _, h, _, _ => by cases h
  | .isx _ _ _ _, _, _, h, _, _ => by cases h
  | .fld _ _ _, _, _, h, _, _ => by cases h
  | .mkf _ _ _ _, _, _, h, _, _ => by cases h
  | .isv _ _, _, _, h, _, _ => by cases h
  | .bad, _, _, h, _, _ => by cases h
  | .mth _ _ _, _, _, h, _, _ => by cases h
  | .bf _ _, _, _, h, _, _ => by cases h
theorem lc_lst2 : ∀ (e : E) {y : Str} {elt tg iter : Expr} {ifs : List Expr} {scope : Scope}, mLc c y elt tg iter ifs scope e = true → ∀ ρ h d h', (evE F G e).v ρ h = .ok d h' → ∃ ds, d = .lst ds := by
  intro e y elt tg iter ifs scope h
  cases e with
  | lc t it d e => exact fun ρ h d h' ev => lc_lst _ _ _ _ ev
  | _ => cases h
theorem tCX_mono {F : Fns} {f n : Nat} {l : Env → Hh → R (List D)} {σ : L2.St} {H : Hp} {Q Q' : VK} (t : tCX X W F f n l σ H Q) (m : ∀ v H1, Q v H1 → Q' v H1) : tCX X W F f n l σ H Q' :=
  tG.mono t fun vs H1 ⟨J1, h1, ds, rh1, rs, hl, p⟩ => ⟨J1, h1, ds, rh1, rs, hl, by
    cases e : F f ds h1 with
    | ok d h2 => rw [e] at p; exact fun J2 H2 b e2 rh2 rd => m _ _ (p J2 H2 b e2 rh2 rd)
    | err x h2 => rw [e] at p; exact p
    | bad => rw [e] at p; exact p⟩
theorem mCall_ok {f : Nat} {es : Es} {x : Expr} (h : mE c (.call f es) x = true) : ∃ fn y xs p q, x = .Call (.Name y p) xs [] q ∧ c.T[f]? = some fn ∧ fn.name = y ∧ c.glb y = true ∧ plainXs xs = true ∧ mEs c es xs = true ∧ xs.length = fn.P.length := by
  simp only [mE] at h
  split at h
  · rename_i y xs hy
    obtain ⟨p, q, rfl⟩ := asCall_eq hy
    split at h
    · rename_i fn hf
      (simp only [Bool.and_eq_true, decide_eq_true_eq] at h)
      obtain ⟨⟨⟨⟨⟨_, h1⟩, h2⟩, h3⟩, h4⟩, h5⟩ := h
      exact ⟨fn, y, xs, p, q, rfl, hf, h1, h3, h4, h5, h2.symm⟩
    · cases h
  · cases h
theorem heat_ok {a : Addr} {pn : List (Addr × Obj)} (o : OkS c F G X W) : OkS c.heat F G (X.suite a pn) W where
  hN := o.hN
  nd := o.nd
  sc := o.sc
  fn := o.fn
  calm := fun h => nomatch (show true = false from h)
  call := fun h => nomatch (show true = false from h)
  quiet := let ⟨k, r, g, t⟩ := o.quiet.ok; ⟨k, ⟨r.dp, r.un⟩, g, t⟩
  blt := o.blt
  glo := o.glo
  exc := o.exc
  exm := o.exm
  gate := o.gate
  lam := o.lam
  pass := fun h => nomatch (show true = false from h)
  takes := fun h => nomatch (show true = false from h)
  stk := o.stk
  frm := o.frm
theorem PostS.ext' {κ : KW} {J J' : Jn} {H H' : Hp} {h h' : Hh} {D : Ends} {r : RS} (rh : RH κ.K J h H) (rh' : RH κ.K J' h' H') (e : Ext J H J' H') (p : PostS κ J H r D) : PostS κ J' H' r D := PostS.ext rh rh' e p
/-- the clause's name is set, the exception tracked, the suite runs, the name goes -/
theorem caught_post {κ : KW} {J J' : Jn} {H H' : Hp} {h h' : Hh} {D : Ends} {ρ' : Env} {σ' : L2.St} {x : Xc} {d : Option Addr} {a : Addr} {i : Nat} {f : Env → Hh → RS} (rh : RH κ.K J h H) (rh1 : RH κ.K J' h' H') (re1 : RE κ.K J' H' ρ' σ') (e1 : Ext J H J' H') (na : H' a = none) (rd : RXd κ.K J' H' x d)
    (q : PostS κ J H (dropS i (f (ρ'.set i (some x.d)) h')) D) : tH κ a f ⟨fun s u => D.nx (s.set i none) u, D.rt, fun s u => D.bk (s.set i none) u, fun s u => D.ct (s.set i none) u⟩ (σ'.set i (some (.ref a))) (upd H' a (ExD (.ref (He.ga κ.K x.cls)) d a)) := by
  have lay := Ext.laid (J := J') (o := ExD (.ref (He.ga κ.K x.cls)) d a) na
  have rx : RD κ.K J' (upd H' a (ExD (.ref (He.ga κ.K x.cls)) d a)) x.d (.ref a) := by
    obtain ⟨k, fl⟩ := x
    cases fl with
    | none =>
      cases (show d = none from rd)
      exact .exc (rh1.notin na) (rh1.notz na) upd_same
    | some p =>
      obtain ⟨b, v, rfl, n1, n2, eb, r⟩ := (show ∃ b v, d = some b ∧ b ∉ J'.l ∧ b ∉ J'.z ∧ H' b = some (.xd [(p.1, v)]) ∧ RD κ.K J' H' p.2 v from rd)
      exact .exf (rh1.notin na) (rh1.notz na) upd_same n1 n2 (lay.keep _ _ n1 eb) (r.ext lay)
  have rh2 := rh1.laid (o := ExD (.ref (He.ga κ.K x.cls)) d a) na
  refine ⟨ρ'.set i (some x.d), h', J', (re1.ext lay).set i rx, rh2, ⟨rh1.notin na, _, _, upd_same⟩, ?_⟩
  have q2 := PostS.ext' rh rh2 (e1.trans rh rh1 lay) q
  cases er : f (ρ'.set i (some x.d)) h' with
  | bad => rw [er] at q2; exact q2
  | nxt ρ2 h2 => rw [er] at q2; exact fun J2 H2 s e2 re2 rh2 => q2 J2 H2 _ e2 (re2.drop i) rh2
  | brk ρ2 h2 => rw [er] at q2; exact fun J2 H2 s e2 re2 rh2 => q2 J2 H2 _ e2 (re2.drop i) rh2
  | cnt ρ2 h2 => rw [er] at q2; exact fun J2 H2 s e2 re2 rh2 => q2 J2 H2 _ e2 (re2.drop i) rh2
  | ret d2 h2 => rw [er] at q2; exact q2
  | err ρ2 x2 h2 => rw [er] at q2; exact q2
theorem par_hot {z : Addr} {pn : List (Addr × Obj)} {c : Cs} {X : Cx} {W : WX} (o : OkS c F G X W) {i j : Nat} (a b : E) {st : Stmt} (hE : ∀ (e : E) (x : Expr), mE c.heat e x = true → SE (X.suite z pn) x (evE F G e)) (h : parB c i j a b st = true) :
    PS (X.suite z pn) st (tH (kw X W) z (evS F G (.par i j a b))) := by
  unfold parB at h
  split at h
  · rename_i nx ny ea eb hy
    obtain ⟨px, py, k, tp, k2, vp, q, rfl, hl⟩ := stPar_eq hy
    simp only [Bool.and_eq_true, decide_eq_true_eq, Bool.not_eq_true'] at h
    obtain ⟨⟨⟨⟨⟨⟨⟨⟨⟨⟨⟨⟨h1, h2⟩, h3⟩, h4⟩, h5⟩, h6⟩, h7⟩, h8⟩, h9⟩, h10⟩, h11⟩, h12⟩, h13⟩ := h
    have hN : X.N = c.N := o.hN
    exact ss_parH (X := X.suite z pn) rfl o.nd (by show X.N[i]? = _; rw [hN]; exact h1) (by show X.N[j]? = _; rw [hN]; exact h2) h3 (isF_ok (X := X) o.toOk h4) (lcl_ok (X := X) o.toOk h5) (lcl_ok (X := X) o.toOk h6) h7 hl h8 h9 h10 h11 (hE a _ h12) (hE b _ h13)
  · cases h
theorem ss_consH {X : Cx} {W : WX} {z : Addr} {st : Stmt} {sts : List Stmt} {f g : Env → Hh → RS} (h1 : PS X st (tH (kw X W) z f)) (h2 : PSs X sts (tS (kw X W) g)) : PSs X (st :: sts) (tH (kw X W) z fun ρ h => (f ρ h).then_ g) :=
  (pss_cons h1 h2).imp fun D σ H ⟨ρ, h, J, re, rh, n, q⟩ => ⟨ρ, h, J, re, rh, n, q.seq rh⟩
mutual
theorem sS : ∀ (t : S) {c : Cs} {X : Cx} {W : WX} (o : OkS c F G X W) (x : Stmt), mS c t x = true → PS X x (tS (kw X W) (evS F G t))
  | .asg i e, c, X, W, o, x, h => by
    simp only [mS] at h
    split at h
    · rename_i y z hy
      obtain ⟨p, q, rfl⟩ := stAsg_eq hy
      (simp only [Bool.and_eq_true] at h)
      obtain ⟨h1, h2, h3⟩ := loc_ok o.toOk h.1.1
      exact ss_asg o.nd h1 h2 h3 (fun q => by rw [o.sc]; exact of_decide_eq_true q) h.1.2 (sE e o.toOk _ h.2)
    · cases h
  | .asgLc i e, c, X, W, o, x, h => by
    simp only [mS] at h
    split at h
    · rename_i y elt tg iter ifs scope hy
      obtain ⟨hc0, hy⟩ := coolO_eq hy
      obtain ⟨py, pos, q, rfl, hl⟩ := stAsgLc_eq hy
      (simp only [Bool.and_eq_true] at h)
      cases e with
      | new e => exact ss_lc o.toOk hc0 e h.1 h.2 hl fun t => tF_new t
      | lc t it d e => exact ss_lc o.toOk hc0 (.lc t it d e) h.1 h.2 hl fun t => tF_of (lc_lst2 _ h.2) t
      | _ => cases h.2
    · cases h
  | .par i j a b, c, X, W, o, x, h => by
    simp only [mS] at h
    split at h
    · rename_i x y ea eb hy
      obtain ⟨hc0, hy⟩ := coolO_eq hy
      obtain ⟨px, py, k, tp, k2, vp, q, rfl, hl⟩ := stPar_eq hy
      simp only [Bool.and_eq_true, decide_eq_true_eq, Bool.not_eq_true'] at h
      obtain ⟨⟨⟨⟨⟨⟨⟨⟨⟨⟨⟨⟨h1, h2⟩, h3⟩, h4⟩, h5⟩, h6⟩, h7⟩, h8⟩, h9⟩, h10⟩, h11⟩, h12⟩, h13⟩ := h
      exact ss_par (o.calm hc0) o.nd (by rw [o.hN]; exact h1) (by rw [o.hN]; exact h2) h3 (isF_ok o.toOk h4) (lcl_ok o.toOk h5) (lcl_ok o.toOk h6) h7 hl h8 h9 h10 h11 (sE a o.toOk _ h12) (sE b o.toOk _ h13)
    · cases h
  | .unp is e, c, X, W, o, x, h => by
    simp only [mS] at h
    split at h
    · rename_i es z hy
      obtain ⟨hc0, hy⟩ := coolO_eq hy
      obtain ⟨k, tp, q, rfl⟩ := stUnp_eq hy
      simp only [Bool.and_eq_true, Bool.or_eq_true, Option.isNone_iff_eq_none] at h
      exact ss_unp (o.calm hc0) (svs_ok o.toOk h.1.1.1) h.1.1.2 (h.1.2.elim (fun t => swapped_no t) fun t => t.elim (fun t => celTwo_ok o.sc t) fun t => swapped_fold t) (sE e o.toOk _ h.2)
    · cases h
  | .sto a i e, c, X, W, o, x, h => by
    simp only [mS] at h
    split at h
    · rename_i ea ei z hy
      obtain ⟨p, q, rfl⟩ := stSto_eq hy
      (simp only [Bool.and_eq_true] at h)
      exact ss_sto o.units h.1.1.1 (sE a o.toOk _ h.1.1.2) (sE i o.toOk _ h.1.2) (sE e o.toOk _ h.2)
    · cases h
  | .aug i op e, c, X, W, o, x, h => by
    simp only [mS] at h
    split at h
    · rename_i y p z hy
      obtain ⟨q, r, rfl⟩ := stAug_eq hy
      (simp only [Bool.and_eq_true] at h)
      obtain ⟨h1, h2, h3⟩ := loc_ok o.toOk h.1.1
      exact ss_aug o.nd h1 h2 h3 h.1.2 (sE e o.toOk _ h.2)
    · cases h
  | .augL i e, c, X, W, o, x, h => by
    simp only [mS] at h
    split at h
    · rename_i y p z hy
      obtain ⟨q, r, rfl⟩ := stAug_eq hy
      split at h
      · (simp only [Bool.and_eq_true] at h)
        obtain ⟨h1, h2, h3⟩ := loc_ok o.toOk h.1
        exact ss_augL o.nd h1 h2 h3 (sE e o.toOk _ h.2)
      · cases h
    · cases h
  | .exp e, c, X, W, o, x, h => by
    simp only [mS] at h
    split at h
    · rename_i z hy
      obtain ⟨q, rfl⟩ := stExp_eq hy
      (simp only [Bool.and_eq_true] at h)
      exact ss_exp h.1 (sE e o.toOk _ h.2)
    · cases h
  | .ret e, c, X, W, o, x, h => by
    simp only [mS] at h
    split at h
    · rename_i z hy
      obtain ⟨q, rfl⟩ := stRet_eq hy
      exact ss_ret (sE e o.toOk _ h)
    · cases h
  | .retN, c, X, W, o, x, h => by obtain ⟨q, rfl⟩ := stRetN_eq h; exact ss_retN
  | .ite t a b, c, X, W, o, x, h => by
    simp only [mS] at h
    split at h
    · rename_i z as bs hy
      obtain ⟨q, rfl⟩ := stIf_eq hy
      (simp only [Bool.and_eq_true] at h)
      exact ss_if (sE t o.toOk _ h.1.1) (sSs a o _ h.1.2) (sSs b o _ h.2)
    · cases h
  | .whl t b, c, X, W, o, x, h => by
    simp only [mS] at h
    split at h
    · rename_i z bs hy
      obtain ⟨hc0, hy⟩ := coolO_eq hy
      obtain ⟨q, rfl⟩ := stWhl_eq hy
      (simp only [Bool.and_eq_true] at h)
      exact ss_whl (o.pass hc0) (sE t o.toOk _ h.1) (sSs b o _ h.2)
    · cases h
  | .for_ t it b, c, X, W, o, x, h => by
    simp only [mS] at h
    split at h
    · rename_i tg z bs hy
      obtain ⟨hc0, hy⟩ := coolO_eq hy
      obtain ⟨q, rfl⟩ := stFor_eq hy
      (simp only [Bool.and_eq_true] at h)
      exact ss_for (o.pass hc0) (o.calm hc0) (sI it o.toOk _ _ h.1.1.2) (st_ok o.toOk hc0 h.1.1.1) (sSs b o _ h.2) h.1.2
    · cases h
  | .pass, c, X, W, o, x, h => by obtain ⟨q, rfl⟩ := stPass_eq h; exact ss_pass
  | .brk, c, X, W, o, x, h => by obtain ⟨q, rfl⟩ := stBrk_eq h; exact ss_brk
  | .cnt, c, X, W, o, x, h => by obtain ⟨q, rfl⟩ := stCnt_eq h; exact ss_cnt
  | .gc ks b, c, X, W, o, x, h => (sS b o x h).imp fun D σ H ⟨ρ, h, J, re, rh, q⟩ => ⟨ρ, h, J, re, rh, q.gc rh⟩
  | .asgC i f es, c, X, W, o, x, h => by
    simp only [mS] at h
    split at h
    · rename_i y z hy
      obtain ⟨hc0, hy⟩ := coolO_eq hy
      obtain ⟨p, q, rfl⟩ := stAsg_eq hy
      (simp only [Bool.and_eq_true] at h)
      obtain ⟨h1, h2, h3⟩ := loc_ok o.toOk h.1
      obtain ⟨fn, y2, xs, p1, p2, rfl, hf, hn, hg, hp, hm, hl⟩ := mCall_ok h.2
      refine (ps_set (e := .Call (.Name y2 p1) xs [] p2) o.nd h1 h2 (pe_callX o.toOk hc0 (o.takes hc0) hf hn hg hp (mEs_nil hm) (sEs es o.toOk _ hm)) (by rfl) h3).imp fun D σ H ⟨ρ, h, J, re, rh, q⟩ => ?_
      refine tCX_mono (callX_do (g := fun x ρ h2 => .nxt (ρ.set i (some x)) h2) (fun ρ h0 ds h' e => by rw [es_len es _ _ _ _ e, mEs_len hm, hl]) ρ h J re rh q) fun v H1 ⟨d, h1, J1, re1, rh1, rd, q1⟩ => ?_
      exact q1 J1 H1 _ Ext.refl (re1.set i rd) rh1
    · cases h
  | .expC f es, c, X, W, o, x, h => by
    simp only [mS] at h
    split at h
    · rename_i z hy
      obtain ⟨hc0, hy⟩ := coolO_eq hy
      obtain ⟨q, rfl⟩ := stExp_eq hy
      obtain ⟨fn, y2, xs, p1, p2, rfl, hf, hn, hg, hp, hm, hl⟩ := mCall_ok h
      refine (ps_expr (e := .Call (.Name y2 p1) xs [] p2) (pe_callX o.toOk hc0 (o.takes hc0) hf hn hg hp (mEs_nil hm) (sEs es o.toOk _ hm)) (by rfl)).imp fun D σ H ⟨ρ, h, J, re, rh, q⟩ => ?_
      refine tCX_mono (callX_do (g := fun _ ρ h2 => .nxt ρ h2) (fun ρ h0 ds h' e => by rw [es_len es _ _ _ _ e, mEs_len hm, hl]) ρ h J re rh q) fun v H1 ⟨d, h1, J1, re1, rh1, rd, q1⟩ => ?_
      exact q1 J1 H1 _ Ext.refl re1 rh1
    · cases h
  | .retC f es, c, X, W, o, x, h => by
    simp only [mS] at h
    split at h
    · rename_i z hy
      obtain ⟨hc0, hy⟩ := coolO_eq hy
      obtain ⟨q, rfl⟩ := stRet_eq hy
      obtain ⟨fn, y2, xs, p1, p2, rfl, hf, hn, hg, hp, hm, hl⟩ := mCall_ok h
      refine (ps_ret (e := .Call (.Name y2 p1) xs [] p2) (pe_callX o.toOk hc0 (o.takes hc0) hf hn hg hp (mEs_nil hm) (sEs es o.toOk _ hm))).imp fun D σ H ⟨ρ, h, J, re, rh, q⟩ => ?_
      refine tCX_mono (callX_do (g := fun x ρ h2 => .ret x h2) (fun ρ h0 ds h' e => by rw [es_len es _ _ _ _ e, mEs_len hm, hl]) ρ h J re rh q) fun v H1 ⟨d, h1, J1, re1, rh1, rd, q1⟩ => ?_
      exact q1 J1 H1 _ Ext.refl rh1 rd
    · cases h
  | .raise_ k, c, X, W, o, x, h => by
    simp only [mS] at h
    split at h
    · rename_i y hy
      obtain ⟨hc0, hy⟩ := coolO_eq hy
      obtain ⟨p, m, j, p2, p3, p4, rfl⟩ := stRaise_eq hy
      (simp only [Bool.and_eq_true, decide_eq_true_eq] at h)
      obtain ⟨⟨rfl, hk⟩, hg⟩ := h
      obtain ⟨C, hm, hx, hkp, hr⟩ := o.exc _ hk
      obtain ⟨g1, g2⟩ := glb_ok o.toOk hg
      exact (L2N.ps_raise (o.calm hc0) (o.takes hc0) (L2N.pmk_own PySem.F.excBase_ValueError hx hm hkp hr g1 g2)).imp fun D σ H ⟨ρ, h, J, re, rh, q⟩ => q J H σ _ _ Ext.refl re rh ⟨⟨C, rfl, hm⟩, (rfl : RXd X.K J H ⟨_, none⟩ none)⟩
    · cases h
  | .try_ b k yes no s, c, X, W, o, x, h => by
    simp only [mS] at h
    split at h
    · rename_i body y suite hy
      obtain ⟨hc0, hy⟩ := coolO_eq hy
      obtain ⟨p, b0, sr, p2, p3, rfl, rfl⟩ := stTry_eq hy
      simp only [Bool.and_eq_true, decide_eq_true_eq, List.all_eq_true] at h
      obtain ⟨⟨⟨⟨⟨⟨rfl, hk⟩, hg⟩, hb⟩, hs⟩, hyes⟩, hno⟩ := h
      obtain ⟨C, hm⟩ := xn_ok o.toOk hk
      obtain ⟨g1, g2⟩ := glb_ok o.toOk hg
      refine (ps_try_plain (c := .ref C) (Wo := W) (tb := fun W' => tS ⟨X.K, X.mg, W'⟩ (evSs F G b)) (t0 := tS ⟨X.K, X.mg, W⟩ (evSs F G s)) o.stk o.frm ⟨g1, g2, .inl hm⟩ (o.takes hc0) (fun W' pn xe tk ps => ?_) (fun a pn => ?_)).imp fun D σ H ⟨ρ, h, J, re, rh, q⟩ => ⟨ρ, h, J, re, rh, ?_⟩
      · exact sSs b (X := X.tr pn xe) (W := W') ⟨⟨o.hN, o.nd, o.sc, o.fn, o.calm, fun h => ⟨(o.call h).ok⟩, ⟨o.quiet.ok⟩, o.blt, o.glo, o.exc, o.exm, o.gate, o.lam⟩, fun _ => ps, fun _ => tk, o.stk, o.frm⟩ body hb
      · exact sSs s (heat_ok o) (b0 :: sr) hs
      · have q : PostS (kw X W) J H (catchS yes no (evSs F G s) (evSs F G b ρ h)) D := q
        cases er : evSs F G b ρ h with
        | err ρ' x h' =>
          rw [er] at q
          simp only [catchS] at q
          by_cases hy1 : x.cls ∈ yes
          · rw [if_pos hy1] at q
            intro J' H' σ' cls d e1 re1 rh1 rx
            obtain ⟨⟨C1, rfl, m1⟩, _⟩ := rx
            have m1 : X.mg x.cls = some (.ref C1) := m1
            obtain ⟨C2, C3, m2, m3, ex⟩ := o.exm.m _ _ _ (hyes _ hy1)
            rw [m1] at m2; rw [hm] at m3
            cases m2; cases m3
            exact ⟨true, ex, (fun z => nomatch z), fun _ => ⟨ρ', h', J', re1, rh1, PostS.ext' rh rh1 e1 q⟩⟩
          · rw [if_neg hy1] at q
            by_cases hy2 : x.cls ∈ no
            · rw [if_pos hy2] at q
              intro J' H' σ' cls d e1 re1 rh1 rx
              have w := q J' H' σ' cls d e1 re1 rh1 rx
              obtain ⟨⟨C1, rfl, m1⟩, _⟩ := rx
              have m1 : X.mg x.cls = some (.ref C1) := m1
              obtain ⟨C2, C3, m2, m3, ex⟩ := o.exm.m _ _ _ (hno _ hy2)
              rw [m1] at m2; rw [hm] at m3
              cases m2; cases m3
              exact ⟨false, ex, (fun _ => w), fun z => nomatch z⟩
            · rw [if_neg hy2] at q; exact q.elim
        | nxt _ _ => rw [er] at q; exact q
        | brk _ _ => rw [er] at q; exact q
        | cnt _ _ => rw [er] at q; exact q
        | ret _ _ => rw [er] at q; exact q
        | bad => rw [er] at q; exact q
    · cases h
  | .tryAs b k yes no i s, c, X, W, o, x, h => by
    simp only [mS] at h
    split at h
    · rename_i body y n suite hy
      obtain ⟨hc0, hy⟩ := coolO_eq hy
      obtain ⟨p, b0, sr, p2, p3, rfl, rfl⟩ := stTryAs_eq hy
      (simp only [Bool.and_eq_true, decide_eq_true_eq, List.all_eq_true] at h)
      (obtain ⟨⟨⟨⟨⟨⟨⟨⟨rfl, hk⟩, hg⟩, hi⟩, hl⟩, hb⟩, hs⟩, hyes⟩, hno⟩ := h)
      obtain ⟨C, hm⟩ := xn_ok o.toOk hk
      obtain ⟨g1, g2⟩ := glb_ok o.toOk hg
      have hn : X.env.kindOf n = some .local := lcl_ok o.toOk hl
      refine (ps_try_keep (c := .ref C) (Wo := W) (tb := fun W' => tS ⟨X.K, X.mg, W'⟩ (evSs F G b)) (ts := fun a => tH ⟨X.K, X.mg, W⟩ a (evSs F G s)) o.stk o.frm o.nd (by rw [o.hN]; exact hi) hn ⟨g1, g2, .inl hm⟩ (o.takes hc0) (fun W' pn xe tk ps => ?_) (fun a pn => (sSs s (heat_ok o) (b0 :: sr) hs).imp fun _ _ _ t => t.drop)).imp fun D σ H ⟨ρ, h, J, re, rh, q⟩ => ⟨ρ, h, J, re, rh, ?_⟩
      · exact sSs b (X := X.tr pn xe) (W := W') ⟨⟨o.hN, o.nd, o.sc, o.fn, o.calm, fun h => ⟨(o.call h).ok⟩, ⟨o.quiet.ok⟩, o.blt, o.glo, o.exc, o.exm, o.gate, o.lam⟩, fun _ => ps, fun _ => tk, o.stk, o.frm⟩ body hb
      · have q : PostS (kw X W) J H (catchAs yes no i (evSs F G s) (evSs F G b ρ h)) D := q
        cases er : evSs F G b ρ h with
        | err ρ' x h' =>
          rw [er] at q
          simp only [catchAs] at q
          intro J' H' σ' cls d e1 re1 rh1 rx
          by_cases hy1 : x.cls ∈ yes
          · rw [if_pos hy1] at q
            obtain ⟨⟨C1, rfl, m1⟩, rd⟩ := rx
            have m1 : X.mg x.cls = some (.ref C1) := m1
            obtain ⟨C2, C3, m2, m3, ex⟩ := o.exm.m _ _ _ (hyes _ hy1)
            have eg := o.exm.g _ _ _ (hyes _ hy1)
            rw [m1] at m2; rw [hm] at m3; rw [m1] at eg
            cases m2; cases m3; cases eg
            exact ⟨true, ex, (fun z => nomatch z), fun _ a na => caught_post rh rh1 re1 e1 na rd q⟩
          · rw [if_neg hy1] at q
            by_cases hy2 : x.cls ∈ no
            · rw [if_pos hy2] at q
              have w := q J' H' σ' cls d e1 re1 rh1 rx
              obtain ⟨⟨C1, rfl, m1⟩, _⟩ := rx
              have m1 : X.mg x.cls = some (.ref C1) := m1
              obtain ⟨C2, C3, m2, m3, ex⟩ := o.exm.m _ _ _ (hno _ hy2)
              rw [m1] at m2; rw [hm] at m3
              cases m2; cases m3
              exact ⟨false, ex, (fun _ => w), fun z => nomatch z⟩
            · rw [if_neg hy2] at q; exact q.elim
        | nxt _ _ => rw [er] at q; exact q
        | brk _ _ => rw [er] at q; exact q
        | cnt _ _ => rw [er] at q; exact q
        | ret _ _ => rw [er] at q; exact q
        | bad => rw [er] at q; exact q
    · cases h
  | .tryAP b k yes no i i1 j1 a1 b1 s, c, X, W, o, x, h => by
    simp only [mS] at h
    split at h
    · rename_i body y n st sts hy
      obtain ⟨hc0, hy⟩ := coolO_eq hy
      obtain ⟨p, b0, sr, p2, p3, es, rfl⟩ := stTryAs_eq hy
      cases es
      (simp only [Bool.and_eq_true, decide_eq_true_eq, List.all_eq_true] at h)
      (obtain ⟨⟨⟨⟨⟨⟨⟨⟨⟨rfl, hk⟩, hg⟩, hi⟩, hl⟩, hb⟩, hpar⟩, hs⟩, hyes⟩, hno⟩ := h)
      obtain ⟨C, hm⟩ := xn_ok o.toOk hk
      obtain ⟨g1, g2⟩ := glb_ok o.toOk hg
      have hn : X.env.kindOf n = some .local := lcl_ok o.toOk hl
      refine (ps_try_keep (c := .ref C) (Wo := W) (tb := fun W' => tS ⟨X.K, X.mg, W'⟩ (evSs F G b)) (ts := fun a => tH ⟨X.K, X.mg, W⟩ a (fun ρ h => (evS F G (.par i1 j1 a1 b1) ρ h).then_ (evSs F G s))) o.stk o.frm o.nd (by rw [o.hN]; exact hi) hn ⟨g1, g2, .inl hm⟩ (o.takes hc0) (fun W' pn xe tk ps => ?_) (fun a pn => ss_consH (par_hot o a1 b1 (fun e x hx => sE e (heat_ok o).toOk x hx) hpar) (sSs s (heat_ok o) _ hs))).imp fun D σ H ⟨ρ, h, J, re, rh, q⟩ => ⟨ρ, h, J, re, rh, ?_⟩
      · exact sSs b (X := X.tr pn xe) (W := W') ⟨⟨o.hN, o.nd, o.sc, o.fn, o.calm, fun h => ⟨(o.call h).ok⟩, ⟨o.quiet.ok⟩, o.blt, o.glo, o.exc, o.exm, o.gate, o.lam⟩, fun _ => ps, fun _ => tk, o.stk, o.frm⟩ body hb
      · have q : PostS (kw X W) J H (catchAs yes no i (fun ρ h => (evS F G (.par i1 j1 a1 b1) ρ h).then_ (evSs F G s)) (evSs F G b ρ h)) D := q
        cases er : evSs F G b ρ h with
        | err ρ' x h' =>
          rw [er] at q
          simp only [catchAs] at q
          intro J' H' σ' cls d e1 re1 rh1 rx
          by_cases hy1 : x.cls ∈ yes
          · rw [if_pos hy1] at q
            obtain ⟨⟨C1, rfl, m1⟩, rd⟩ := rx
            have m1 : X.mg x.cls = some (.ref C1) := m1
            obtain ⟨C2, C3, m2, m3, ex⟩ := o.exm.m _ _ _ (hyes _ hy1)
            have eg := o.exm.g _ _ _ (hyes _ hy1)
            rw [m1] at m2; rw [hm] at m3; rw [m1] at eg
            cases m2; cases m3; cases eg
            exact ⟨true, ex, (fun z => nomatch z), fun _ a na => caught_post rh rh1 re1 e1 na rd q⟩
          · rw [if_neg hy1] at q
            by_cases hy2 : x.cls ∈ no
            · rw [if_pos hy2] at q
              have w := q J' H' σ' cls d e1 re1 rh1 rx
              obtain ⟨⟨C1, rfl, m1⟩, _⟩ := rx
              have m1 : X.mg x.cls = some (.ref C1) := m1
              obtain ⟨C2, C3, m2, m3, ex⟩ := o.exm.m _ _ _ (hno _ hy2)
              rw [m1] at m2; rw [hm] at m3
              cases m2; cases m3
              exact ⟨false, ex, (fun _ => w), fun z => nomatch z⟩
            · rw [if_neg hy2] at q; exact q.elim
        | nxt _ _ => rw [er] at q; exact q
        | brk _ _ => rw [er] at q; exact q
        | cnt _ _ => rw [er] at q; exact q
        | ret _ _ => rw [er] at q; exact q
        | bad => rw [er] at q; exact q
    · cases h
  | .raiseE k e, c, X, W, o, x, h => by
    simp only [mS] at h
    split at h
    · rename_i y z hy
      obtain ⟨hc0, hy⟩ := coolO_eq hy
      obtain ⟨p, p3, p4, rfl⟩ := stRaiseE_eq hy
      (simp only [Bool.and_eq_true, decide_eq_true_eq] at h)
      obtain ⟨⟨⟨⟨rfl, hk⟩, hg⟩, hp⟩, he⟩ := h
      obtain ⟨C, hm, hx, hkp, hr⟩ := o.exc _ hk
      obtain ⟨g1, g2⟩ := glb_ok o.toOk hg
      refine (L2N.ps_raise (o.calm hc0) (o.takes hc0) (pmk_one PySem.F.excBase_ValueError hx hm hkp hr g1 (sE e o.toOk _ he).v (plain_star hp _ _) g2)).imp fun D σ H ⟨ρ, h, J, re, rh, q⟩ => ?_
      exact (PostS.step (R1 := rD X.K) (f := (evE F G e).v) re rh q).mono fun x H1 ⟨J1, h1, dx, e1, re1, rh1, rx, q1⟩ => q1 J1 H1 σ _ _ Ext.refl re1 rh1 ⟨⟨C, rfl, hm⟩, (rfl : RXd X.K J1 H1 ⟨_, none⟩ none)⟩
    · cases h
  | .raiseF k f e, c, X, W, o, x, h => by
    simp only [mS] at h
    split at h
    · rename_i y z hy
      obtain ⟨hc0, hy⟩ := coolO_eq hy
      obtain ⟨p, p3, p4, rfl⟩ := stRaiseE_eq hy
      (simp only [Bool.and_eq_true, decide_eq_true_eq] at h)
      obtain ⟨⟨⟨⟨⟨rfl, hk⟩, hs⟩, hg⟩, hp⟩, he⟩ := h
      obtain ⟨hm, gt, _, _⟩ := o.gate _ hk
      obtain ⟨g1, g2⟩ := glb_ok o.toOk hg
      obtain ⟨kk, hr, _⟩ := (o.call hc0).ok
      refine (L2N.ps_raise (o.calm hc0) (o.takes hc0) (pmk_gate gt (hr.mono (Nat.zero_le _)) (o.blt _ hs) g1 hm (sE e o.toOk _ he).v (plain_star hp _ _) g2)).imp fun D σ H ⟨ρ, h, J, re, rh, q⟩ => ?_
      refine (PostS.step (R1 := rD X.K) (f := (evE F G e).v) re rh q).mono fun x H1 ⟨J1, h1, dx, e1, re1, rh1, rx, q1⟩ a na => ?_
      exact q1 J1 _ σ _ _ (Ext.laid na) (re1.ext (Ext.laid na)) (rh1.laid na) ⟨⟨_, rfl, hm⟩, ⟨a, x, rfl, rh1.notin na, rh1.notz na, upd_same, rx.ext (Ext.laid na)⟩⟩
    · cases h
  | .bad, c, X, W, o, x, h => ⟨fun pins s σ H D I ⟨ρ, h, J, re, rh, q⟩ => q.elim⟩
theorem sSs : ∀ (t : Ss) {c : Cs} {X : Cx} {W : WX} (o : OkS c F G X W) (xs : List Stmt), mSs c t xs = true → PSs X xs (tS (kw X W) (evSs F G t))
  | .nil, c, X, W, o, [], h => ss_nil
  | .nil, c, X, W, o, _ :: _, h => by cases h
  | .cons _ _, c, X, W, o, [], h => by cases h
  | .cons s ss, c, X, W, o, x :: xs, h => by
    simp only [mSs, Bool.and_eq_true] at h
    exact ss_cons (sS s o _ h.1) (sSs ss o _ h.2)
end
end
end PV
end

section
set_option maxRecDepth 100000
namespace PV
open L2 PySem PySem.Spec PyProof.Rows

/-! ### a def's end -/
section
variable {K : PySem.W.Frag} {J J' : Jn} {H H' : Hp} {h h' : Hh}
theorem frz_rd {n : Nat} (rh : RH K J h H) : ∀ (k : Nat) (d : D) (v : V), RD K J H d v → (d.frz h n k).rlt n = true → RD K (J.cut n) H (d.frz h n k) v
  | 0, d, v, r, e => r.cut e
  | k + 1, d, v, r, e => by
    have i1 := frz_rd rh (n := n) k
    have i2 : ∀ (ds : List D) (vs : List V), RDs K J H ds vs → D.rlts n (ds.map (D.frz h n k)) = true → RDs K (J.cut n) H (ds.map (D.frz h n k)) vs := by
      intro ds
      induction ds with
      | nil => intro vs r e; cases r; exact .nil
      | cons x xs ih =>
        intro vs r e
        cases r with
        | cons rx rr =>
          simp only [List.map_cons, D.rlts, Bool.and_eq_true] at e
          exact .cons (i1 _ _ rx e.1) (ih _ rr e.2)
    cases d with
    | ref i =>
      simp only [D.frz] at e ⊢
      split at e
      · rename_i hi
        rw [if_pos hi]; exact r.cut e
      · rename_i hi
        rw [if_neg hi]
        cases r with
        | @ref _ a q =>
          obtain ⟨o, u, h1, h2, h3⟩ := rh.at q
          rw [h1] at e ⊢
          cases h3 with
          | @lst ds vs z rr =>
            refine .lst (fun hm => ?_) (fun hm => rh.apart a hm (List.mem_of_getElem? q)) h2 z (i2 _ _ rr e)
            obtain ⟨j, hj⟩ := List.mem_iff_getElem?.mp hm
            have hjn : j < n := by
              have := (List.getElem?_eq_some_iff.mp hj).1
              simp only [List.length_take] at this; omega
            have hj' : J.l[j]? = some a := by
              have hj2 : (J.l.take n)[j]? = some a := hj
              rwa [List.getElem?_take_of_lt hjn] at hj2
            obtain ⟨l1, e1⟩ := List.getElem?_eq_some_iff.mp q
            obtain ⟨l2, e2⟩ := List.getElem?_eq_some_iff.mp hj'
            have := (List.getElem_inj rh.nd).mp (e1.trans e2.symm)
            omega
          | dct z rr => exact absurd (of_decide_eq_true e) hi
          | tb _ _ => exact absurd (of_decide_eq_true e) hi
    | tup xs =>
      cases r with
      | tup a m q z r => exact .tup (fun hm => a (List.mem_of_mem_take hm)) m q z (i2 _ _ r e)
      | ktup kk z r => exact .ktup kk z (i2 _ _ r e)
    | lst xs =>
      cases r with
      | lst a m q z r => exact .lst (fun hm => a (List.mem_of_mem_take hm)) m q z (i2 _ _ r e)
    | non => exact r.cut e
    | bl b => exact r.cut e
    | int i => exact r.cut e
    | str x => exact r.cut e
    | fz xs => exact r.cut e
    | ftup xs => exact r.cut e
    | exc c => exact r.cut e
    | exf c f d => exact r.cut e
theorem finD_post {f : Bool} {d : D} {h2 : Hh} {Q : VK} (rh : RH K J h H) (p : Post K J H (rD K) (finD f h.length d h2) Q) : ∀ J' H' v, Ext J H J' H' → RH K J' h2 H' → RD K J' H' d v → Q v H' := by
  intro J' H' v e rh' rv
  unfold finD at p
  cases f with
  | false => exact p J' H' v e rh' rv
  | true =>
    simp only [if_true] at p
    split at p
    · rename_i hc
      (simp only [Bool.and_eq_true] at hc)
      have hle : h.length ≤ h2.length := by
        obtain ⟨m, hm, _⟩ := e.pre
        rw [← rh'.len, ← rh.len, hm, List.length_append]; omega
      exact p _ H' v (e.cut rh) (rh'.cut hle hc.2) (frz_rd rh' 4 _ _ rv hc.1)
    · exact p.elim
theorem finR_post {mg : Str → Option Value} {E : XK} {f : Bool} {r : RS} {Q : VK} (rh : RH K J h H) (p : PostX K mg E J H (rD K) (finR f h.length r) Q) : PostS ⟨K, mg, fun c d _ H => E c d H⟩ J H r { nx := fun _ H' => Q .non H', rt := Q } := by
  have back : ∀ {d : D} {h2 : Hh}, PostX K mg E J H (rD K) (finD f h.length d h2) Q → Post K J H (rD K) (finD f h.length d h2) Q := fun {d h2} p => by
    unfold finD at p ⊢
    cases f with
    | false => exact p
    | true =>
      simp only [if_true] at p ⊢
      split
      · rename_i hc; rw [if_pos hc] at p; exact p
      · rename_i hc; rw [if_neg hc] at p; exact p
  cases r with
  | ret d h2 => exact finD_post rh (back p)
  | nxt ρ h2 => exact fun J' H' σ e re rh' => finD_post rh (back p) J' H' .non e rh' .non
  | bad => exact p
  | brk _ _ => exact False.elim p
  | cnt _ _ => exact False.elim p
  | err ρ x h2 => exact fun J' H' σ c d e re rh' rx => p J' H' c d e rh' rx
theorem re_start {N : List Str} {ds : List D} {vs : List V} (r : RDs K J H ds vs) : RE K J H (ds.map some ++ List.replicate (N.length - ds.length) none) (L2.start N vs) := by
  refine ⟨by simp [L2.start, r.length], fun i d q => ?_⟩
  by_cases hi : i < ds.length
  · rw [List.getElem?_append_left (by simpa using hi), List.getElem?_map] at q
    cases hd : ds[i]? with
    | none => rw [hd] at q; cases q
    | some d' =>
      rw [hd] at q; cases q
      obtain ⟨v, h1, h2⟩ := r.get hd
      refine ⟨v, ?_, h2⟩
      have hv : i < vs.length := (List.getElem?_eq_some_iff.mp h1).1
      unfold L2.start
      rw [List.getElem?_append_left (by simpa using hv), List.getElem?_map, h1]; rfl
  · rw [List.getElem?_append_right (by simp; omega)] at q
    rw [List.getElem?_replicate] at q
    split at q <;> cases q
end

/-! ### a def by its body, where no repr is under way -/
section
variable {P : Program} {w : World} {K : PySem.W.Frag} {mg : Str → Option Value} {base : Heap} {params : Arguments} {body : List Stmt} {scope : Scope}
theorem deeper_guards (A : Around) (env : PySem.Env) : (A.deeper env).guards = A.guards := rfl
theorem fnG_of {x : Str} {a : Addr} {fd : FuncData} {N ps : List Str} {k : Nat} {sp : Sp} (F : FunD K x x params body scope [] [] a fd) (S : FnScope N ps scope) (len : ∀ vs H Q E, sp vs H Q E → vs.length = ps.length)
    (hb : ∀ (cd : Value) (A : Around) (out : List PySem.Env) (s : Shared) (H : Hp) (vs : List V) (Q : VK) (E : XK), fd.code = cd → Room k (A.deeper (envOfC x scope s.heap.objs.size a cd)) → A.guards = some [] → sp vs H Q E →
      ∃ t, PSs (cxOf (L2N.CX P w) P w K mg base N x scope a cd A out s H E) body t ∧ t { nx := fun _ H' => Q .non H', rt := Q } (L2.start N vs) H) : FnG P w K mg base (k + 1) a fd ps sp := by
  (obtain ⟨oc, od, dV, kV, doc, pm, an, cdv, ct, osl, rfl, lk, hcd, _, _⟩ := F.ex)
  refine ⟨len, fun {A out s H args us vs Q E} hr hgd e0 hbd r hsp => ?_⟩
  have inK : K.In s.heap := e0.mod.kin.keeps fun b o e => (e0.bs b o e).1
  have noLim : s.heap.NoLimit := e0.mod.nolimit.keeps fun b o e => (e0.bs b o e).1
  refine codeAny_call_function hr.depth (inK _ _ lk) rfl S.co S.gen rfl (PySem.W.codeRec_of inK hcd) (hbd _ _ _ _ ?_)
  refine wpAny_newFunctionEnv_cells S.kind (fun y hy => ?_) fun env he s1 x1 => ?_
  · have hy1 := (List.of_mem_zip (show (y.1, y.2) ∈ ps.zip us from hy)).1
    cases S.par y.1 hy1 with
    | inl q => exact .inl q
    | inr q => exact .inr ⟨q, PySem.W.cellsFrom_some _ _ _ (.inl q)⟩
  · subst he
    refine ⟨noLim.keeps x1.toInCall.keep, codeAny_func ?_⟩
    obtain ⟨t, ht, hq⟩ := hb cdv A out s H vs Q E rfl (hr.deeper _) hgd hsp
    have I : L2.Inv (cxOf (L2N.CX P w) P w K mg base N x scope a cdv A out s H E) [] (L2.start N vs) H s1 := inv_start S hr.hd e0 (len _ _ _ _ hsp) r x1
    (refine wpAny_mono (ht.run [] s1 (L2.start N vs) H _ I hq) (fun fl s' hs => ?_) fun e s' hs => hs)
    cases fl with
    | ret u => obtain ⟨v, σ', H', I', rv, q⟩ := hs; exact ⟨v, H', I'.os, I'.bare, I'.base, I'.hok, rv, q⟩
    | next => obtain ⟨σ', H', I', q⟩ := hs; exact ⟨.non, H', I'.os, I'.bare, I'.base, I'.hok, rfl, q⟩
    | brk => obtain ⟨_, _, _, q⟩ := hs; exact q.elim
    | cont => obtain ⟨_, _, _, q⟩ := hs; exact q.elim
end

/-! ### a def that is called within an except suite -/
section
variable {P : Program} {w : World} {K : PySem.W.Frag} {mg : Str → Option Value} {base : Heap} {params : Arguments} {body : List Stmt} {scope : Scope}
theorem inv_hot {CX : CXT} {N ps : List Str} {qual : Str} {f : Addr} {cd : Value} {A : Around} {outer : List PySem.Env} {s s1 : Shared} {H : Hp} {E : XK} {us : List Value} {vs : List V} (S : FnScope N ps scope) (e0 : Env0 P w K mg base A outer s H) (hl : vs.length = ps.length) (r : Vals vs us) (x : InCallC s s.heap.objs.size (bindL (envOfC qual scope s.heap.objs.size f cd).kindOf (ps.zip us) fun _ => none) (cellsFrom (s.heap.objs.size + 1) scope.names []) (bindC (envOfC qual scope s.heap.objs.size f cd).kindOf (ps.zip us) fun _ => none) s1) :
    L2.Inv { cxOf CX P w K mg base N qual scope f cd A outer s H E with calm := false } [] (L2.start N vs) H s1 := by
  have e1 : Env0 P w K mg base { A with handled := none } outer s H := { e0 with frames := e0.frames }
  have I := inv_start (CX := CX) (E := E) (cd := cd) (f := f) (qual := qual) (A := { A with handled := none }) S rfl e1 hl r x
  exact { I with ok := { I.ok with hd := (fun z => nomatch (show false = true from z)), frames := Around.frames_deeper e0.frames } }
theorem fnQ_of {x : Str} {a : Addr} {fd : FuncData} {N ps : List Str} {k : Nat} {sp : Sp} (F : FunD K x x params body scope [] [] a fd) (S : FnScope N ps scope) (len : ∀ vs H Q E, sp vs H Q E → vs.length = ps.length)
    (hb : ∀ (cd : Value) (A : Around) (out : List PySem.Env) (s : Shared) (H : Hp) (vs : List V) (Q : VK), L2H.RoomH k (A.deeper (envOfC x scope s.heap.objs.size a cd)) → A.guards = some [] → sp vs H Q E0 →
      ∃ t, PSs { cxOf (L2N.CX P w) P w K mg base N x scope a cd A out s H E0 with calm := false } body t ∧ t { nx := fun _ H' => Q .non H', rt := Q } (L2.start N vs) H) : FnQ P w K mg base (k + 1) a fd ps sp := by
  (obtain ⟨oc, od, dV, kV, doc, pm, an, cdv, ct, osl, rfl, lk, hcd, _, _⟩ := F.ex)
  refine ⟨len, fun {A out s H args us vs Q} hr hgd e0 hbd r hsp => ?_⟩
  have inK : K.In s.heap := e0.mod.kin.keeps fun b o e => (e0.bs b o e).1
  have noLim : s.heap.NoLimit := e0.mod.nolimit.keeps fun b o e => (e0.bs b o e).1
  refine codeAny_call_function hr.depth (inK _ _ lk) rfl S.co S.gen rfl (PySem.W.codeRec_of inK hcd) (hbd _ _ _ _ ?_)
  refine wpAny_newFunctionEnv_cells S.kind (fun y hy => ?_) fun env he s1 x1 => ?_
  · have hy1 := (List.of_mem_zip (show (y.1, y.2) ∈ ps.zip us from hy)).1
    cases S.par y.1 hy1 with
    | inl q => exact .inl q
    | inr q => exact .inr ⟨q, PySem.W.cellsFrom_some _ _ _ (.inl q)⟩
  · subst he
    refine ⟨noLim.keeps x1.toInCall.keep, codeAny_func ?_⟩
    obtain ⟨t, ht, hq⟩ := hb cdv A out s H vs Q (hr.deeper _) hgd hsp
    have I := inv_hot (CX := L2N.CX P w) (E := E0) S e0 (len _ _ _ _ hsp) r x1
    (refine wpAny_mono (ht.run [] s1 (L2.start N vs) H _ I hq) (fun fl s' hs => ?_) fun e s' hs => hs)
    cases fl with
    | ret u => obtain ⟨v, σ', H', I', rv, q⟩ := hs; exact ⟨v, H', I'.os, I'.bare, I'.base, I'.hok, rv, q⟩
    | next => obtain ⟨σ', H', I', q⟩ := hs; exact ⟨.non, H', I'.os, I'.bare, I'.base, I'.hok, rfl, q⟩
    | brk => obtain ⟨_, _, _, q⟩ := hs; exact q.elim
    | cont => obtain ⟨_, _, _, q⟩ := hs; exact q.elim
end

/-! ### the table of the defs -/
/-- what a law's text is read by: free names, module constants, exception classes (made, named, with a field), defs that suites call -/
structure Lw where
  bs : List Str
  gn : List Str
  xs : List Str
  xm : Xm
  xg : List (Str × Str)
  qt : List Nat
def Lw.cs (L : Lw) (T : List Fn) (N : List Str) (scope : Scope) (hot : Bool) (lq : Str := "") : Cs := ⟨N, scope, fun _ => true, L.bs, T, L.gn, L.xs, L.xm, L.xg, hot, L.qt, lq⟩
/-- a def with lambdas: its code object's table is the one that the last constant tells -/
def LamOk (mg : Str → Option Value) (base : Heap) (G : List D) (fn : Fn) (fd : FuncData) : Prop := fn.lq ≠ "" → ∃ (P : Nat) (cA : Addr), G.getLast? = some (.int P) ∧ LamX.TabB base mg cA P ∧ fd.code = .ref cA ∧ fn.dn ++ ".<locals>." ++ "<lambda>" = fn.lq
/-- what is known of a def of the table: where it stands, its text -/
structure DefOk (K : PySem.W.Frag) (mg : Str → Option Value) (base : Heap) (G : List D) (L : Lw) (T : List Fn) (f : Nat) (fn : Fn) (params : Arguments) (body : List Stmt) (scope : Scope) : Prop where
  sc : FnScope fn.N fn.P scope
  ok : mSs (L.cs T fn.N scope false fn.lq) fn.body body = true
  okq : f ∈ L.qt → mSs (L.cs T fn.N scope true) fn.body body = true
  ex : ∃ a fd, FunD K fn.dn fn.dn params body scope [] [] a fd ∧ mg fn.name = some (.ref a) ∧ L2.Binds K fd fn.P [] ∧ LamOk mg base G fn fd ∧ ∀ q ∈ fn.kw, KwOk K fd fn.P q.1 q.2.1 q.2.2
/-- what is known of the module's names -/
structure ModOk (P : Program) (K : PySem.W.Frag) (mg : Str → Option Value) (L : Lw) (G : List D) : Prop where
  b : ∀ x ∈ L.bs, mg x = none
  g : ∀ (i : Nat) (x : Str) (d : D), L.gn[i]? = some x → G[i]? = some d → ∃ v u, mg x = some u ∧ L2.RelV v u ∧ ∀ J H, RD K J H d v
  x : ∀ x ∈ L.xs, ∃ C, mg x = some (.ref C) ∧ PySem.W.excIn K C He.veBase "ValueError.__new__" = true ∧ PySem.W.keepIn K (.ref C) = true ∧ PySem.W.subIn K (.ref C) (.type "BaseException") = some true ∧ PySem.W.typeIn K (.ref C) = some (.type "type")
  m : XF K mg L.xm
  t : GtOk P K mg L.xg
section
variable {P : Program} {w : World} {K : PySem.W.Frag} {mg : Str → Option Value} {base : Heap} {T : List Fn} {L : Lw} {G : List D}
def TabAt (P : Program) (w : World) (K : PySem.W.Frag) (mg : Str → Option Value) (base : Heap) (T : List Fn) (G : List D) (k : Nat) : Prop := ∀ (f : Nat) (fn : Fn), T[f]? = some fn →
    ∃ a fd, mg fn.name = some (.ref a) ∧ PySem.W.keepIn K (.ref a) = true ∧ FnG P w K mg base k a fd fn.P (spF K mg (callN T G k) f fn.P.length) ∧ L2.Binds K fd fn.P [] ∧ ∀ q ∈ fn.kw, KwOk K fd fn.P q.1 q.2.1 q.2.2
def TabQ (P : Program) (w : World) (K : PySem.W.Frag) (mg : Str → Option Value) (base : Heap) (T : List Fn) (qt : List Nat) (G : List D) (k : Nat) : Prop := ∀ (f : Nat) (fn : Fn), f ∈ qt → T[f]? = some fn →
    ∃ a fd, mg fn.name = some (.ref a) ∧ PySem.W.keepIn K (.ref a) = true ∧ FnQ P w K mg base k a fd fn.P (spF K mg (callN T G k) f fn.P.length) ∧ L2.Binds K fd fn.P []
theorem ModOk.raise (M : ModOk P K mg L G) {X : Cx} (hK : X.K = K) (hm : X.mg = mg) : ∀ x ∈ L.xs, ∃ C, X.mg x = some (.ref C) ∧ PySem.W.excIn X.K C He.veBase "ValueError.__new__" = true ∧ PySem.W.keepIn X.K (.ref C) = true ∧ Raises X (.ref C) := by
  subst hK hm
  exact fun x hxs => let ⟨C, m1, m2, m3, m4, m5⟩ := M.x x hxs; ⟨C, m1, m2, m3, raises_own m4 m5⟩
theorem def_run {k f : Nat} {fn : Fn} {vs : List V} {H : Hp} {Q : VK} {E : XK} (hf : T[f]? = some fn) (hsp : spF K mg (callN T G (k + 1)) f fn.P.length vs H Q E) :
    tS ⟨K, mg, fun c d _ H => E c d H⟩ (evSs (callN T G k) G fn.body) { nx := fun _ H' => Q .non H', rt := Q } (L2.start fn.N vs) H := by
  obtain ⟨hl, J, h, ds, rs, rh, q⟩ := hsp
  have q : PostX K mg E J H (rD K) (match T[f]? with
    | none => .bad
    | some fn => if ds.length = fn.P.length then finR fn.frz h.length (evSs (callN T G k) G fn.body (ds.map some ++ List.replicate (fn.N.length - ds.length) none) h) else .bad) Q := q
  rw [hf] at q
  dsimp only at q
  rw [if_pos (by rw [rs.length]; exact hl)] at q
  exact ⟨_, h, J, re_start rs, rh, finR_post rh q⟩
/-- one def more deep -/
theorem def_step (M : ModOk P K mg L G) {k f : Nat} {fn : Fn} {params : Arguments} {body : List Stmt} {scope : Scope} {a : Addr} {fd : FuncData}
    (IH : TabAt P w K mg base T G k) (IQ : TabQ P w K mg base T L.qt G k) (hf : T[f]? = some fn) (sc : FnScope fn.N fn.P scope) (ok : mSs (L.cs T fn.N scope false fn.lq) fn.body body = true) (fu : FunD K fn.dn fn.dn params body scope [] [] a fd) (lo : LamOk mg base G fn fd) :
    FnG P w K mg base (k + 1) a fd fn.P (spF K mg (callN T G (k + 1)) f fn.P.length) := by
  unfold TabAt at IH
  unfold TabQ at IQ
  refine fnG_of fu sc (fun vs H Q E h => h.1) (fun cdv A outer s H vs Q E hcv hr hgd hsp => ⟨tS ⟨K, mg, fun c d _ H => E c d H⟩ (evSs (callN T G k) G fn.body), ?_, def_run hf hsp⟩)
  exact sSs fn.body (c := L.cs T fn.N scope false fn.lq) (X := cxOf (L2N.CX P w) P w K mg base fn.N fn.dn scope a cdv A outer s H E) (W := fun c d _ H => E c d H) ⟨⟨rfl, sc.nd, rfl, rfl, fun _ => rfl, fun _ => ⟨k, hr, hgd, IH⟩, ⟨k, L2H.roomH_of hr, hgd, IQ⟩, M.b, M.g, M.raise rfl rfl, M.m, M.t, fun hl => let ⟨P, cA, l1, l2, l3, l4⟩ := lo hl; ⟨P, cA, l1, l2, hcv.symm.trans l3, l4⟩⟩, fun _ => passes_of rfl, fun _ => L2N.takes_of rfl rfl rfl rfl, rfl, rfl⟩ body ok
theorem def_stepQ (M : ModOk P K mg L G) {k f : Nat} {fn : Fn} {params : Arguments} {body : List Stmt} {scope : Scope} {a : Addr} {fd : FuncData}
    (IQ : TabQ P w K mg base T L.qt G k) (hf : T[f]? = some fn) (sc : FnScope fn.N fn.P scope) (ok : mSs (L.cs T fn.N scope true) fn.body body = true) (fu : FunD K fn.dn fn.dn params body scope [] [] a fd) :
    FnQ P w K mg base (k + 1) a fd fn.P (spF K mg (callN T G (k + 1)) f fn.P.length) := by
  unfold TabQ at IQ
  refine fnQ_of fu sc (fun vs H Q E h => h.1) (fun cdv A outer s H vs Q hr hgd hsp => ⟨tS ⟨K, mg, fun c d _ H => E0 c d H⟩ (evSs (callN T G k) G fn.body), ?_, def_run hf hsp⟩)
  exact sSs fn.body (c := L.cs T fn.N scope true) (X := { cxOf (L2N.CX P w) P w K mg base fn.N fn.dn scope a cdv A outer s H E0 with calm := false }) (W := fun c d _ H => E0 c d H) ⟨⟨rfl, sc.nd, rfl, rfl, (fun h => nomatch (show true = false from h)), (fun h => nomatch (show true = false from h)), ⟨k, hr, hgd, IQ⟩, M.b, M.g, M.raise rfl rfl, M.m, M.t, fun hl => absurd rfl hl⟩, (fun h => nomatch (show true = false from h)), (fun h => nomatch (show true = false from h)), rfl, rfl⟩ body ok
theorem tab_both (hT : ∀ (f : Nat) (fn : Fn), T[f]? = some fn → ∃ params body scope, DefOk K mg base G L T f fn params body scope) (M : ModOk P K mg L G) : ∀ (k : Nat), TabAt P w K mg base T G k ∧ TabQ P w K mg base T L.qt G k
  | 0 => by
    refine ⟨fun f fn hf => ?_, fun f fn hq hf => ?_⟩
    · obtain ⟨params, body, scope, d⟩ := hT f fn hf
      obtain ⟨a, fd, fu, hma, hbd, hla, hkw⟩ := d.ex
      refine ⟨a, fd, hma, fu.kp, ⟨fun vs H Q E h => h.1, fun {A out s H args us vs Q E} hr hgd e0 hb' r hsp => ?_⟩, hbd, hkw⟩
      obtain ⟨_, J, h, ds, _, _, q⟩ := hsp
      exact False.elim q
    · obtain ⟨params, body, scope, d⟩ := hT f fn hf
      obtain ⟨a, fd, fu, hma, hbd, hla, hkw⟩ := d.ex
      refine ⟨a, fd, hma, fu.kp, ⟨fun vs H Q E h => h.1, fun {A out s H args us vs Q} hr hgd e0 hb' r hsp => ?_⟩, hbd⟩
      obtain ⟨_, J, h, ds, _, _, q⟩ := hsp
      exact False.elim q
  | k + 1 => by
    obtain ⟨IH, IQ⟩ := tab_both hT M k
    refine ⟨fun f fn hf => ?_, fun f fn hq hf => ?_⟩
    · obtain ⟨params, body, scope, d⟩ := hT f fn hf
      obtain ⟨a, fd, fu, hma, hbd, hla, hkw⟩ := d.ex
      exact ⟨a, fd, hma, fu.kp, def_step M IH IQ hf d.sc d.ok fu hla, hbd, hkw⟩
    · obtain ⟨params, body, scope, d⟩ := hT f fn hf
      obtain ⟨a, fd, fu, hma, hbd, hla, hkw⟩ := d.ex
      exact ⟨a, fd, hma, fu.kp, def_stepQ M IQ hf d.sc (d.okq hq) fu, hbd⟩
/-- a call with keywords -/
theorem kw_mk {x qual : Str} {params : Arguments} {body : List Stmt} {scope : Scope} {a : Addr} {fd : FuncData} {ps : List Str} {n : Nat} {ks : List Str} {pm : List Nat} (fu : FunD K x qual params body scope [] [] a fd) (hl : pm.length = ps.length)
    (h : ∀ (kV doc pmv : Value) (an : Option Addr) (cdv ct : Value) (us ws : List Value), us.length = n → ws.length = ks.length → bindArgs (PySem.W.fnOf x qual params body scope .none kV doc pmv an cdv ct) ⟨us, ks.zip ws⟩ = pure (ps.zip (pmD .none pm us ws))) : KwOk K fd ps n ks pm := by
  obtain ⟨oc, od, dV, kV, doc, pmv, an, cdv, ct, osl, rfl, lk, hcd, hD, hK⟩ := fu.ex
  (rcases hD with ⟨_, rfl⟩ | ⟨e, _⟩)
  · exact ⟨fun s us ws _ h1 h2 => .of_eq (h kV doc pmv an cdv ct us ws h1 h2), hl⟩
  · exact absurd rfl e
/-- the law: what the evaluator says of it holds -/
theorem law_sp {f n k : Nat} {fn : Fn} (hf : T[f]? = some fn) (hp : fn.P.length = 1) (hev : ∀ ns : List Int, ns.length ≤ n → ∃ h, callN T G k f [.fz (ns.map D.int)] [] = .ok (.bl true) h) (hn : n ≤ sizeLine) (H : Hp) (a : Addr) (ns : List Int) (hl : ns.length ≤ n) (hO : Only H) (hS : SqL K H a (ns.map V.int)) :
    spF K mg (callN T G k) f fn.P.length [.ref a] H (fun v _ => v = .bl true) fun _ _ _ => False := by
  refine ⟨hp.symm, ⟨[], []⟩, [], [.fz (ns.map D.int)], .cons ?_ .nil, ⟨List.nodup_nil, rfl, fun i o e => by simp at e, fun a ha => (by cases ha), fun a ha => (by cases ha), fun i P q e => by simp at e⟩, ?_⟩
  · have rs : ∀ ns : List Int, RDs K ⟨[], []⟩ H (ns.map D.int) (ns.map V.int) := by
      intro ns
      induction ns with
      | nil => exact .nil
      | cons i r ih => exact .cons (.int i) ih
    have hz : (ns.map V.int).length ≤ sizeLine := by rw [List.length_map]; omega
    rcases hS with hS | hS
    · rcases hO a with e | ⟨o, xs, e⟩
      · rcases hS with q | ⟨_, q⟩ <;> rw [e] at q <;> cases q
      · rcases hS with q | ⟨o', q⟩
        · rw [e] at q; cases q
        · exact .fz (fun hm => by cases hm) (fun hm => by cases hm) q hz (rs ns)
    · exact .kfz hS hz (rs ns)
  · obtain ⟨h, e⟩ := hev ns hl
    rw [e]
    intro J' H' b _ _ rv
    cases rv; rfl

/-! ### the law's call -/
theorem law_g {mb : Str → Option Value} {k : Nat} {fa a : Addr} {fd : FuncData} {x : Str} {sp : Sp} {s1 : Shared} {vs : List Value} {ns : List Int}
    (kx : K.In s1.heap) (hm : s1.heap.Ns mainGlobals mg) (hbn : s1.heap.Ns builtinsNs mb) (hbb : ∀ y : Str, y ≠ "__name__" → mb y = bootBuiltins y) (hlim : s1.heap.NoLimit) (hgn : s1.gens = #[])
    (ha : s1.heap.get? a = some { cls := .type "list", data := .seq vs.toArray }) (hi : IntsAre vs ns) (hl : ns.length ≤ sizeLine) (hr : Room k callerA)
    (hF : ∀ base : Heap, K.In base → base.Ns mainGlobals mg → FnG P w K mg base k fa fd [x] sp) (hbd : ∀ (s : Shared) (u : Value), BindsTo s fd ⟨[u], []⟩ [(x, u)])
    (hsp : ∀ H : Hp, Only H → SqL K H a (ns.map V.int) → sp [.ref a] H (fun v _ => v = .bl true) E0) :
    codeAny (model P w) callerA (.call (.ref fa) ⟨[.ref a], []⟩) (fun r s' => r = .ok (.ret (.bool true)) ∧ OldK s1.heap s'.heap ∧ s'.os = s1.os ∧ AllBare s'.gens) s1 := by
  have rv : Vals (ns.map V.int) vs := vals_ints hi
  have hlen := hi.length
  have main : ∀ H : Hp, Only H → SqL K H a (ns.map V.int) → HOk P w H s1.heap → (∀ b, H b ≠ none → b = a ∧ K.lookup a = none) →
      codeAny (model P w) callerA (.call (.ref fa) ⟨[.ref a], []⟩) (fun r s' => r = .ok (.ret (.bool true)) ∧ OldK s1.heap s'.heap ∧ s'.os = s1.os ∧ AllBare s'.gens) s1 := by
    intro H only seq ok own
    have keep : ∀ {b : Addr} {o : Obj}, s1.heap.get? b = some o → H b = none → (hidT s1.heap H).get? b = some o := fun e n => hidT_get e n
    have dictFree : ∀ {b : Addr} {o : Obj} {es : Array DictEntry} {n : Nat}, s1.heap.get? b = some o → o.data = .dict es n → H b = none := by
      intro b o es n e d
      cases hq : H b with
      | none => rfl
      | some u =>
        obtain rfl := (own b (by rw [hq]; exact Option.some_ne_none u)).1
        rw [ha] at e; cases e; cases d
    have names : ∀ {b : Addr} {m : Str → Option Value}, s1.heap.Ns b m → (hidT s1.heap H).Ns b m := by
      rintro b m ⟨o, es, n, e, d, q⟩
      exact ⟨o, es, n, keep e (dictFree e d), d, q⟩
    have kIn : K.In (hidT s1.heap H) := by
      intro b o e
      refine keep (kx b o e) ?_
      cases hq : H b with
      | none => rfl
      | some u =>
        obtain ⟨rfl, hk⟩ := own b (by rw [hq]; exact Option.some_ne_none u)
        rw [hk] at e; cases e
    obtain ⟨mc, c1, c2⟩ := hlim
    have env : Env0 P w K mg (hidT s1.heap H) callerA [] s1 H :=
      ⟨rfl, ⟨kIn, names hm, ⟨mb, names hbn, hbb⟩, ⟨mc, names c1, c2⟩⟩, fun b o e => of_hidT e, Nat.le_of_eq (hidT_size _ _), trivial, fun b hb => (List.not_mem_nil hb).elim, ok, .of_eq hgn⟩
    refine codeAny_mono ((hF _ kIn (names hm)).go (us := [.ref a]) (vs := [.ref a]) hr rfl env (hbd s1 (.ref a)) (.cons rfl .nil) (hsp H only seq)) fun r s' hq => ?_
    cases r with
    | error e =>
      obtain ⟨_, _, _, _, _, _, _, _, _, _, _, _, z⟩ := hq
      exact z.elim
    | ok fl =>
      cases fl with
      | next => exact False.elim hq
      | brk => exact False.elim hq
      | cont => exact False.elim hq
      | ret u =>
        obtain ⟨v, H', os, bare, un, ok', ru, rfl⟩ := hq
        cases (show u = Value.bool true from ru)
        (refine ⟨rfl, OldK.of_keep fun b o e => ?_, os, bare⟩)
        cases hb : H b with
        | none => exact un.keep b o e hb (fun z => List.not_mem_nil z) (by simp)
        | some u =>
          rcases only b with z | ⟨ob, xs, z⟩
          · rw [hb] at z; cases z
          · have e1 := (ok b _ z).1
            have e2 := (ok' b _ (un.frzs b ob _ z)).1
            rw [e] at e1; cases e1; exact e2
  cases hk : K.lookup a with
  | some o =>
    have e := kx a o hk
    rw [ha] at e; cases e
    exact main (fun _ => none) (fun _ => .inl rfl) (.inr ⟨_, vs.toArray, _, hk, rfl, rfl, rfl, by simpa [hlen] using hl, by simpa using rv⟩) (fun b u z => by cases z) fun b z => absurd rfl z
  | none =>
    let H : Hp := upd (fun _ => none) a (.frz { cls := .type "list", data := .seq vs.toArray } (.lst (ns.map V.int)))
    have ne : ∀ {b : Addr}, b ≠ a → H b = none := fun hb => upd_ne hb
    refine main H (fun b => ?_) (.inl (.inr ⟨_, upd_same⟩)) (fun b u z => ?_) fun b z => ?_
    · by_cases hb : b = a
      · subst hb; exact .inr ⟨_, _, upd_same⟩
      · exact .inl (ne hb)
    · by_cases hb : b = a
      · subst hb
        have z' : some _ = some u := upd_same.symm.trans z
        cases z'
        (exact ⟨ha, by rw [List.length_map]; exact hl, vs, _, rv, ha⟩)
      · rw [ne hb] at z; cases z
    · by_cases hb : b = a
      · exact ⟨hb, hk⟩
      · exact absurd (ne hb) z
end
/-- a law over the evaluator -/
theorem walk_g {l : PySem.W.OpenLaw} {n k : Nat} {q : Program} {loose : List Str} {XP : (Str → Option Value) → Heap → Prop} {YP : World → Heap → Prop} {d : DefRec} {x : Str}
    (hn : l.most = some n) (hn2 : n ≤ sizeLine)
    (hdf : d.params.defaults = []) (hr : Room k callerA)
    (hF : ∀ (w : World) (mg : Str → Option Value) (fa : Addr) (h : Heap), YP w h → h.Ns mainGlobals mg → mg d.name = some (.ref fa) →
      ∃ (K : PySem.W.Frag) (fd : FuncData) (sp : Sp), K.In h ∧
        (∀ (s : Shared) (u : Value), BindsTo s fd ⟨[u], []⟩ [(x, u)]) ∧
        (∀ (H : Hp) (a : Addr) (ns : List Int), ns.length ≤ n → Only H → SqL K H a (ns.map V.int) → sp [.ref a] H (fun v _ => v = .bl true) E0) ∧
        ∀ base : Heap, K.In base → base.Ns mainGlobals mg → FnG l.prog w K mg base k fa fd [x] sp) :
    (PySem.W.WalkO q loose XP YP l.row.toRowW d [] (fun f vs => PySem.call f vs)) := by
  refine Att.attach_call hn hdf fun w t0 t1 mg mb fa o pm cd doc a vs ns W Y ho hd hcd hmg hobj hints hlen hgn => ?_
  obtain ⟨K, fd, sp, kx, hbd, hsp, go⟩ := hF w mg fa _ Y W.T.g hmg
  exact law_g kx W.T.g W.T.b W.T.builtins W.T.nolimit hgn hobj hints (Nat.le_trans hlen hn2) hr go hbd fun H only seq => hsp H a ns hlen only seq
end PV
end

section
set_option maxRecDepth 100000
/-! PvTb: a law whose text makes lambdas in one def: the law's call from a heap list that holds that def's table of code objects. -/
namespace PV
open L2 PySem PySem.Spec PyProof.Rows
section
variable {P : Program} {w : World} {K : PySem.W.Frag} {mg : Str → Option Value} {base : Heap} {T : List Fn}
/-- the script, the table, nothing else -/
def OnlyT (tp a : Addr) (H : Hp) : Prop := H tp = some (.tbl #[]) ∧ a ≠ tp ∧ ∀ b, H b = none ∨ b = tp ∨ ∃ o xs, H b = some (.frz o (.lst xs))
theorem law_spT {tp : Nat} {q : Str} {f n k : Nat} {fn : Fn} {G : List D} (hf : T[f]? = some fn) (hp : fn.P.length = 1) (hev : ∀ ns : List Int, ns.length ≤ n → ∃ h, callN T G k f [.fz (ns.map D.int)] [.tb tp q] = .ok (.bl true) h) (hn : n ≤ sizeLine) (H : Hp) (a : Addr) (ns : List Int) (hl : ns.length ≤ n) (hO : OnlyT tp a H) (hS : SqL K H a (ns.map V.int)) :
    spF K mg (callN T G k) f fn.P.length [.ref a] H (fun v _ => v = .bl true) fun _ _ _ => False := by
  obtain ⟨hT, ha, hO⟩ := hO
  have rs : ∀ ns : List Int, RDs K ⟨[tp], []⟩ H (ns.map D.int) (ns.map V.int) := by
    intro ns
    induction ns with
    | nil => exact .nil
    | cons i r ih => exact .cons (.int i) ih
  have hz : (ns.map V.int).length ≤ sizeLine := by rw [List.length_map]; omega
  have na : a ∉ [tp] := fun z => ha (List.mem_singleton.mp z)
  refine ⟨hp.symm, ⟨[tp], []⟩, [.tb tp q], [.fz (ns.map D.int)], .cons ?_ .nil, ⟨by simp, rfl, fun i o e => ?_, fun a ha => (by cases ha), fun a ha => (by cases ha), fun i P2 q2 e => ?_⟩, ?_⟩
  · rcases hS with hS | hS
    · rcases hO a with e | e | ⟨o, xs, e⟩
      · rcases hS with z | ⟨_, z⟩ <;> rw [e] at z <;> cases z
      · exact absurd e ha
      · rcases hS with z | ⟨o', z⟩
        · rw [e] at z; cases z
        · exact .fz na (fun hm => by cases hm) z hz (rs ns)
    · exact .kfz hS hz (rs ns)
  · cases i with
    | zero =>
      cases e
      refine ⟨tp, _, rfl, hT, .tb True.intro fun pos cv hc => ?_⟩
      (have z : codeAmong pos [] = some cv := hc)
      simp [codeAmong] at z
    | succ j => cases e
  · cases i with
    | zero => cases e; rfl
    | succ j => cases e
  · obtain ⟨h, e⟩ := hev ns hl
    rw [e]
    intro J' H' b _ _ rv
    cases rv; rfl
/-- the law's call -/
theorem law_gT {mb : Str → Option Value} {k : Nat} {fa a cA tp : Addr} {fd : FuncData} {x : Str} {sp : Sp} {s1 : Shared} {vs : List Value} {ns : List Int}
    (kx : K.In s1.heap) (hm : s1.heap.Ns mainGlobals mg) (hbn : s1.heap.Ns builtinsNs mb) (hbb : ∀ y : Str, y ≠ "__name__" → mb y = bootBuiltins y) (hlim : s1.heap.NoLimit) (hgn : s1.gens = #[])
    (et : s1.heap.get? tp = some { cls := .none, data := .fields #[] }) (nk : K.lookup tp = none) (ch : PySem.W.CodeHd s1.heap cA tp)
    (bmod : ∃ (bm : Addr) (ob : Obj), mg "__builtins__" = some (.ref bm) ∧ bm ≠ builtinsNs ∧ s1.heap.get? bm = some ob ∧ ob.cls = .type "module" ∧ ob.dict = some builtinsNs ∧ ob.data = .plain)
    (ha : s1.heap.get? a = some { cls := .type "list", data := .seq vs.toArray }) (hi : IntsAre vs ns) (hl : ns.length ≤ sizeLine) (hr : Room k callerA)
    (hF : ∀ base : Heap, K.In base → base.Ns mainGlobals mg → LamX.TabB base mg cA tp → FnG P w K mg base k fa fd [x] sp) (hbd : ∀ (s : Shared) (u : Value), BindsTo s fd ⟨[u], []⟩ [(x, u)])
    (hsp : ∀ H : Hp, OnlyT tp a H → SqL K H a (ns.map V.int) → sp [.ref a] H (fun v _ => v = .bl true) E0) :
    codeAny (model P w) callerA (.call (.ref fa) ⟨[.ref a], []⟩) (fun r s' => r = .ok (.ret (.bool true)) ∧ OldK s1.heap s'.heap ∧ s'.os = s1.os ∧ AllBare s'.gens) s1 := by
  have rv : Vals (ns.map V.int) vs := vals_ints hi
  have hlen := hi.length
  have nat : a ≠ tp := fun z => by
    rw [z, et] at ha
    cases ha
  have main : ∀ H : Hp, OnlyT tp a H → SqL K H a (ns.map V.int) → HOk P w H s1.heap → (∀ b, H b ≠ none → (b = a ∧ K.lookup a = none) ∨ b = tp) →
      codeAny (model P w) callerA (.call (.ref fa) ⟨[.ref a], []⟩) (fun r s' => r = .ok (.ret (.bool true)) ∧ OldK s1.heap s'.heap ∧ s'.os = s1.os ∧ AllBare s'.gens) s1 := by
    intro H only seq ok own
    have keep : ∀ {b : Addr} {o : Obj}, s1.heap.get? b = some o → H b = none → (hidT s1.heap H).get? b = some o := fun e n => hidT_get e n
    have other : ∀ {b : Addr} {o : Obj}, s1.heap.get? b = some o → (∀ us n, o.data ≠ .seq us n) → o.data ≠ .fields #[] → H b = none := by
      intro b o e d1 d2
      cases hq : H b with
      | none => rfl
      | some u =>
        rcases own b (by rw [hq]; exact Option.some_ne_none u) with ⟨rfl, _⟩ | rfl
        · rw [ha] at e; cases e; exact absurd rfl (d1 _ _)
        · rw [et] at e; cases e; exact absurd rfl d2
    have dictFree : ∀ {b : Addr} {o : Obj} {es : Array DictEntry} {n : Nat}, s1.heap.get? b = some o → o.data = .dict es n → H b = none := fun e d => other e (fun us n z => by rw [d] at z; cases z) fun z => by rw [d] at z; cases z
    have names : ∀ {b : Addr} {m : Str → Option Value}, s1.heap.Ns b m → (hidT s1.heap H).Ns b m := by
      rintro b m ⟨o, es, n, e, d, q⟩
      exact ⟨o, es, n, keep e (dictFree e d), d, q⟩
    have kIn : K.In (hidT s1.heap H) := by
      intro b o e
      refine keep (kx b o e) ?_
      cases hq : H b with
      | none => rfl
      | some u =>
        rcases own b (by rw [hq]; exact Option.some_ne_none u) with ⟨rfl, hk⟩ | rfl
        · rw [hk] at e; cases e
        · rw [nk] at e; cases e
    have tab : LamX.TabB (hidT s1.heap H) mg cA tp := by
      have gN : ∀ {b : Addr} {o : Obj}, s1.heap.get? b = some o → (∀ es n, o.data ≠ .dict es n) → b ≠ mainGlobals := fun {b o} e d z => by
        obtain ⟨o2, es, ep, e2, hd, _⟩ := hm
        rw [← z, e] at e2
        cases e2
        exact d _ _ hd
      refine ⟨?_, ?_, fun z => gN et (fun es n w => by cases w) z.symm⟩
      · obtain ⟨o, us, file, tf, flags, tg, inF, text, tt, e1, r1, r2, r3, r⟩ := ch
        exact ⟨o, us, file, tf, flags, tg, inF, text, tt, keep e1 (other e1 (fun vs n z => by rw [r2] at z; cases z) fun z => by
          rw [r2] at z
          cases z
          simp at r3), r1, r2, r3, r⟩
      · obtain ⟨bm, ob, b1, b2, b3, b4, b5, b6⟩ := bmod
        exact ⟨bm, ob, b1, b2, gN b3 (fun es n z => by rw [b6] at z; cases z), fun z => (by rw [z, et] at b3; cases b3; cases b6), keep b3 (other b3 (fun us n z => by rw [b6] at z; cases z) fun z => by rw [b6] at z; cases z), b4, b5, b6⟩
    obtain ⟨mc, c1, c2⟩ := hlim
    have env : Env0 P w K mg (hidT s1.heap H) callerA [] s1 H :=
      ⟨rfl, ⟨kIn, names hm, ⟨mb, names hbn, hbb⟩, ⟨mc, names c1, c2⟩⟩, fun b o e => of_hidT e, Nat.le_of_eq (hidT_size _ _), trivial, fun b hb => (List.not_mem_nil hb).elim, ok, .of_eq hgn⟩
    refine codeAny_mono ((hF _ kIn (names hm) tab).go (us := [.ref a]) (vs := [.ref a]) hr rfl env (hbd s1 (.ref a)) (.cons rfl .nil) (hsp H only seq)) fun r s' hq => ?_
    cases r with
    | error e =>
      obtain ⟨_, _, _, _, _, _, _, _, _, _, _, _, z⟩ := hq
      exact z.elim
    | ok fl =>
      cases fl with
      | next => exact False.elim hq
      | brk => exact False.elim hq
      | cont => exact False.elim hq
      | ret u =>
        obtain ⟨v, H', os, bare, un, ok', ru, rfl⟩ := hq
        cases (show u = Value.bool true from ru)
        have same : ∀ b o, b ≠ tp → s1.heap.get? b = some o → s'.heap.get? b = some o := fun b o nb e => by
          cases hb : H b with
          | none => exact un.keep b o e hb (fun z => List.not_mem_nil z) (by simp)
          | some u =>
            rcases only.2.2 b with z | z | ⟨ob, xs, z⟩
            · rw [hb] at z; cases z
            · exact absurd z nb
            · have e1 := (ok b _ z).1
              have e2 := (ok' b _ (un.frzs b ob _ z)).1
              rw [e] at e1; cases e1; exact e2
        obtain ⟨more, grown⟩ : ∃ more : Array Value, s'.heap.get? tp = some { cls := .none, data := .fields more } := by
          obtain ⟨more, z⟩ := un.tbls tp #[] only.1
          exact ⟨_, ok' tp _ z⟩
        (refine ⟨rfl, ⟨fun b o e => ?_, fun b o e => ?_⟩, os, bare⟩)
        · by_cases hb : b = tp
          · subst hb
            rw [et] at e
            cases e
            exact .inr (.inl ⟨(ch.tab et).isCodeTable, rfl, #[], more, rfl, by rw [Array.empty_append]; exact grown⟩)
          · exact .inl (same b o hb e)
        · by_cases hb : b = tp
          · subst hb; exact ⟨_, grown⟩
          · exact ⟨o, same b o hb e⟩
  cases hk : K.lookup a with
  | some o =>
    have e := kx a o hk
    rw [ha] at e; cases e
    let H : Hp := upd (fun _ => none) tp (.tbl #[])
    have ne : ∀ {b : Addr}, b ≠ tp → H b = none := fun hb => upd_ne hb
    refine main H ⟨upd_same, nat, fun b => ?_⟩ (.inr ⟨_, vs.toArray, _, hk, rfl, rfl, rfl, by simpa [hlen] using hl, by simpa using rv⟩) (fun b u z => ?_) fun b z => ?_
    · by_cases hb : b = tp
      · exact .inr (.inl hb)
      · exact .inl (ne hb)
    · by_cases hb : b = tp
      · subst hb
        have z' : some _ = some u := upd_same.symm.trans z
        cases z'
        exact et
      · rw [ne hb] at z; cases z
    · by_cases hb : b = tp
      · exact .inr hb
      · exact absurd (ne hb) z
  | none =>
    let H : Hp := upd (upd (fun _ => none) tp (.tbl #[])) a (.frz { cls := .type "list", data := .seq vs.toArray } (.lst (ns.map V.int)))
    have ht : H tp = some (.tbl #[]) := (upd_ne (Ne.symm nat)).trans upd_same
    have ne : ∀ {b : Addr}, b ≠ a → b ≠ tp → H b = none := fun h1 h2 => (upd_ne h1).trans (upd_ne h2)
    refine main H ⟨ht, nat, fun b => ?_⟩ (.inl (.inr ⟨_, upd_same⟩)) (fun b u z => ?_) fun b z => ?_
    · by_cases hb : b = tp
      · exact .inr (.inl hb)
      · by_cases hb2 : b = a
        · subst hb2; exact .inr (.inr ⟨_, _, upd_same⟩)
        · exact .inl (ne hb2 hb)
    · by_cases hb : b = tp
      · subst hb
        rw [ht] at z
        cases z
        exact et
      · by_cases hb2 : b = a
        · subst hb2
          have z' : some _ = some u := upd_same.symm.trans z
          cases z'
          (exact ⟨ha, by rw [List.length_map]; exact hl, vs, _, rv, ha⟩)
        · rw [ne hb2 hb] at z; cases z
    · by_cases hb : b = tp
      · exact .inr hb
      · by_cases hb2 : b = a
        · exact .inl ⟨hb2, hk⟩
        · exact absurd (ne hb2 hb) z
end
/-- a law over the evaluator -/
theorem walk_gT {l : PySem.W.OpenLaw} {n k : Nat} {q : Program} {loose : List Str} {XP : (Str → Option Value) → Heap → Prop} {YP : World → Heap → Prop} {d : DefRec} {x : Str}
    (hn : l.most = some n) (hn2 : n ≤ sizeLine)
    (hdf : d.params.defaults = []) (hr : Room k callerA)
    (hF : ∀ (w : World) (mg : Str → Option Value) (fa : Addr) (h : Heap), YP w h → h.Ns mainGlobals mg → mg d.name = some (.ref fa) →
      ∃ (K : PySem.W.Frag) (fd : FuncData) (sp : Sp) (cA tp : Addr), K.In h ∧ h.get? tp = some { cls := .none, data := .fields #[] } ∧ K.lookup tp = none ∧ PySem.W.CodeHd h cA tp ∧
        (∀ (s : Shared) (u : Value), BindsTo s fd ⟨[u], []⟩ [(x, u)]) ∧
        (∀ (H : Hp) (a : Addr) (ns : List Int), ns.length ≤ n → OnlyT tp a H → SqL K H a (ns.map V.int) → sp [.ref a] H (fun v _ => v = .bl true) E0) ∧
        ∀ base : Heap, K.In base → base.Ns mainGlobals mg → LamX.TabB base mg cA tp → FnG l.prog w K mg base k fa fd [x] sp) :
    (PySem.W.WalkO q loose XP YP l.row.toRowW d [] (fun f vs => PySem.call f vs)) := by
  refine Att.attach_call hn hdf fun w t0 t1 mg mb fa o pm cd doc a vs ns W Y ho hd hcd hmg hobj hints hlen hgn => ?_
  obtain ⟨K, fd, sp, cA, tp, kx, et, nk, ch, hbd, hsp, go⟩ := hF w mg fa _ Y W.T.g hmg
  exact law_gT kx W.T.g W.T.b W.T.builtins W.T.nolimit hgn et nk ch W.T.bmain hobj hints (Nat.le_trans hlen hn2) hr go hbd fun H only seq => hsp H a ns hlen only seq
end PV
namespace PV
open L2 PySem PySem.Spec PyProof.Rows
theorem code_of {K : PySem.W.Frag} {x q : Str} {params : Arguments} {body : List Stmt} {scope : Scope} {dvs : List V} {kws : List (Str × V)} {p : He.Defn} {fd : FuncData} (fu : FunD K x q params body scope dvs kws (He.fAd K p) fd) : fd.code = .ref (He.codeOf K p) := by
  obtain ⟨oc, od, dV, kV, doc, pm, an, cdv, ct, osl, rfl, lk, hcd, _, _⟩ := fu.ex
  obtain ⟨c, rfl⟩ := He.codeIn_ref hcd
  rw [He.codeOf_eq lk rfl]
end PV
end

section
/-! PvU: rules for running the evaluator by simp. -/
namespace PV
open PySem L2
section
variable {α β : Type} {F : Fns} {G : List D} {ρ : Env} {h : Hh}
/-- locks a continuation: simp leaves it as it stands until its value is there -/
structure Lk {γ : Type} (f : γ) : Type where
  mk ::
def R.bnd (r : R α) (f : α → Hh → R β) (_ : Lk f) : R β := r.bind f
def R.thn (r : R α) (f : α → Hh → RS) (_ : Lk f) : RS := r.then_ f
def RS.thn (r : RS) (f : Env → Hh → RS) (_ : Lk f) : RS := r.then_ f
@[simp] theorem bnd_ok (a : α) (h : Hh) (f : α → Hh → R β) (l : Lk f) : (R.ok a h).bnd f l = f a h := id rfl
@[simp] theorem bnd_bad (f : α → Hh → R β) (l : Lk f) : (R.bad : R α).bnd f l = .bad := id rfl
@[simp] theorem thn_ok (a : α) (h : Hh) (f : α → Hh → RS) (l : Lk f) : (R.ok a h).thn f l = f a h := id rfl
@[simp] theorem thn_bad (f : α → Hh → RS) (l : Lk f) : (R.bad : R α).thn f l = .bad := id rfl
@[simp] theorem sthn_nxt (ρ : Env) (h : Hh) (f : Env → Hh → RS) (l : Lk f) : (RS.nxt ρ h).thn f l = f ρ h := id rfl
@[simp] theorem sthn_ret (d : D) (h : Hh) (f : Env → Hh → RS) (l : Lk f) : (RS.ret d h).thn f l = .ret d h := id rfl
@[simp] theorem sthn_bad (f : Env → Hh → RS) (l : Lk f) : RS.bad.thn f l = .bad := id rfl
@[simp] theorem sthn_brk (ρ : Env) (h : Hh) (f : Env → Hh → RS) (l : Lk f) : (RS.brk ρ h).thn f l = .brk ρ h := id rfl
@[simp] theorem sthn_cnt (ρ : Env) (h : Hh) (f : Env → Hh → RS) (l : Lk f) : (RS.cnt ρ h).thn f l = .cnt ρ h := id rfl
@[simp] theorem bnd_ite {c : Prop} [Decidable c] {a b : R α} {f : α → Hh → R β} {l : Lk f} : (if c then a else b).bnd f l = if c then a.bnd f l else b.bnd f l := by split <;> rfl
@[simp] theorem thn_ite {c : Prop} [Decidable c] {a b : R α} {f : α → Hh → RS} {l : Lk f} : (if c then a else b).thn f l = if c then a.thn f l else b.thn f l := by split <;> rfl
@[simp] theorem sthn_ite {c : Prop} [Decidable c] {a b : RS} {f : Env → Hh → RS} {l : Lk f} : (if c then a else b).thn f l = if c then a.thn f l else b.thn f l := by split <;> rfl
@[simp] theorem finR_ite {c : Prop} [Decidable c] {a b : RS} {g : Bool} {n : Nat} : finR g n (if c then a else b) = if c then finR g n a else finR g n b := by split <;> rfl
@[simp] theorem finR_ret (n : Nat) (d : D) (h : Hh) : finR false n (.ret d h) = .ok d h := id rfl
@[simp] theorem finR_err (g : Bool) (n : Nat) (ρ : Env) (x : Xc) (h : Hh) : finR g n (.err ρ x h) = .err x h := id rfl
@[simp] theorem sthn_err (ρ : Env) (x : Xc) (h : Hh) (f : Env → Hh → RS) (l : Lk f) : (RS.err ρ x h).thn f l = .err ρ x h := id rfl
@[simp] theorem finR_nxt (n : Nat) (ρ : Env) (h : Hh) : finR false n (.nxt ρ h) = .ok .non h := id rfl
/-! expressions -/
theorem opt_map {f : α → β} (o : Option α) (h : Hh) : R.opt (o.map f) h = (R.opt o h).bind fun a h => .ok (f a) h := by cases o <;> rfl
@[simp] theorem v_var (i : Nat) : (evE F G (.var i)).v ρ h = (match ρ[i]? with | some (some d) => R.ok d h | _ => R.bad) := id rfl
@[simp] theorem v_con (d : D) : (evE F G (.con d)).v ρ h = .ok d h := id rfl
@[simp] theorem v_glo (i : Nat) : (evE F G (.glo i)).v ρ h = R.opt G[i]? h := id rfl
@[simp] theorem t_miss : (evE F G .miss).t ρ h = .ok true h := id rfl
@[simp] theorem v_tup' (es : Es) : (evE F G (.tup es)).v ρ h = ((evEs F G es).l ρ h).bnd (fun xs h1 => if sizeOk xs.length then .ok (.tup xs) h1 else .bad) ⟨⟩ := id rfl
@[simp] theorem v_ftup' (es : Es) : (evE F G (.ftup es)).v ρ h = ((evEs F G es).l ρ h).bnd (fun xs h1 => if sizeOk xs.length then .ok (.ftup xs) h1 else .bad) ⟨⟩ := id rfl
@[simp] theorem v_lst' (es : Es) : (evE F G (.lst es)).v ρ h = ((evEs F G es).l ρ h).bnd (fun xs h1 => if sizeOk xs.length then .ok (.lst xs) h1 else .bad) ⟨⟩ := id rfl
@[simp] theorem v_new (e : E) : (evE F G (.new e)).v ρ h = ((evE F G e).v ρ h).bnd newObj ⟨⟩ := id rfl
@[simp] theorem v_bin (o : BOp) (a b : E) : (evE F G (.bin o a b)).v ρ h = ((evE F G a).v ρ h).bnd (fun x h1 => ((evE F G b).v ρ h1).bnd (fun y h2 => R.opt (opBin o h2 x y) h2) ⟨⟩) ⟨⟩ := id rfl
@[simp] theorem v_neg (a : E) : (evE F G (.neg a)).v ρ h = ((evE F G a).v ρ h).bnd (fun x h1 => R.opt (x.isInt.map fun i => .int (-i)) h1) ⟨⟩ := id rfl
@[simp] theorem v_cmp (o : COp) (a b : E) : (evE F G (.cmp o a b)).v ρ h = ((evE F G a).v ρ h).bnd (fun x h1 => ((evE F G b).v ρ h1).bnd (fun y h2 => (R.opt (opCmp o h2 x y) h2).bnd (fun t h3 => .ok (.bl t) h3) ⟨⟩) ⟨⟩) ⟨⟩ := by
  show _ = ((evE F G a).v ρ h).bind fun x h1 => ((evE F G b).v ρ h1).bind fun y h2 => (R.opt (opCmp o h2 x y) h2).bind fun t h3 => .ok (D.bl t) h3
  simp only [← opt_map]; rfl
@[simp] theorem v_and (a : E) (r : Es) : (evE F G (.and a r)).v ρ h = ((evE F G a).v ρ h).bnd (fun x h1 => (vBl x h1).bnd (fun t h2 => if t then (evEs F G r).an ρ h2 else .ok (.bl false) h2) ⟨⟩) ⟨⟩ := id rfl
@[simp] theorem v_or (a : E) (r : Es) : (evE F G (.or a r)).v ρ h = ((evE F G a).v ρ h).bnd (fun x h1 => (vBl x h1).bnd (fun t h2 => if t then .ok (.bl true) h2 else (evEs F G r).on ρ h2) ⟨⟩) ⟨⟩ := id rfl
@[simp] theorem v_not (a : E) : (evE F G (.not a)).v ρ h = ((evE F G a).v ρ h).bnd (fun x h1 => (vBl x h1).bnd (fun t h2 => .ok (.bl (!t)) h2) ⟨⟩) ⟨⟩ := id rfl
@[simp] theorem v_ite (c a b : E) : (evE F G (.ite c a b)).v ρ h = ((evE F G c).t ρ h).bnd (fun t h1 => if t then (evE F G a).v ρ h1 else (evE F G b).v ρ h1) ⟨⟩ := id rfl
@[simp] theorem v_idx (a i : E) : (evE F G (.idx a i)).v ρ h = ((evE F G a).v ρ h).bnd (fun x h1 => ((evE F G i).v ρ h1).bnd (fun y h2 => R.opt (opIdx h2 x y) h2) ⟨⟩) ⟨⟩ := id rfl
@[simp] theorem v_slc (a lo hi : E) : (evE F G (.slc a lo hi)).v ρ h = ((evE F G a).v ρ h).bnd (fun x h1 => (vPart lo.isMiss (evE F G lo) ρ h1).bnd (fun l h2 => (vPart hi.isMiss (evE F G hi) ρ h2).bnd (fun u h3 => R.opt (opSlc h3 x l u) h3) ⟨⟩) ⟨⟩) ⟨⟩ := id rfl
@[simp] theorem v_call (f : Nat) (es : Es) : (evE F G (.call f es)).v ρ h = ((evEs F G es).l ρ h).bnd (fun xs h1 => F f xs h1) ⟨⟩ := id rfl
@[simp] theorem v_callK (f : Nat) (es kes : Es) (ks : List Nat) : (evE F G (.callK f es kes ks)).v ρ h = ((evEs F G es).l ρ h).bnd (fun xs h1 => ((evEs F G kes).l ρ h1).bnd (fun ys h2 => F f (pmD .non ks xs ys) h2) ⟨⟩) ⟨⟩ := id rfl
@[simp] theorem v_bf (f : Bf) (es : Es) : (evE F G (.bf f es)).v ρ h = ((evEs F G es).l ρ h).bnd (fun xs h1 => R.opt (opBf f h1 xs) h1) ⟨⟩ := id rfl
@[simp] theorem v_isi (a : E) (t : Ty) : (evE F G (.isi a t)).v ρ h = ((evE F G a).v ρ h).bnd (fun x h1 => if x.isO h1 then .bad else .ok (.bl (opIsi t h1 x)) h1) ⟨⟩ := id rfl
@[simp] theorem v_chain (o p : COp) (a b c : E) : (evE F G (.chain o p a b c)).v ρ h = ((evE F G a).v ρ h).bnd (fun x h1 => ((evE F G b).v ρ h1).bnd (fun y h2 => (R.opt (opCmp o h2 x y) h2).bnd (fun t h3 =>
      if t then ((evE F G c).v ρ h3).bnd (fun z h4 => (R.opt (opCmp p h4 y z) h4).bnd (fun t h5 => .ok (.bl t) h5) ⟨⟩) ⟨⟩ else .ok (.bl false) h3) ⟨⟩) ⟨⟩) ⟨⟩ := by
  show _ = ((evE F G a).v ρ h).bind fun x h1 => ((evE F G b).v ρ h1).bind fun y h2 => (R.opt (opCmp o h2 x y) h2).bind fun t h3 =>
      if t then ((evE F G c).v ρ h3).bind fun z h4 => (R.opt (opCmp p h4 y z) h4).bind fun t h5 => .ok (D.bl t) h5 else .ok (D.bl false) h3
  simp only [← opt_map]; rfl
@[simp] theorem v_lcc (t : Tg) (it : I) (c e : E) : (evE F G (.lc t it c e)).v ρ h = (evI F G it ρ h).bnd (fun s h1 => if sizeOk s.items.length then lcLoop s.good (lcTurn t (evE F G c) (evE F G e) ρ) s.items [] h1 else .bad) ⟨⟩ := id rfl
@[simp] theorem v_tenum (a : E) : (evE F G (.tenum a)).v ρ h = ((evE F G a).v ρ h).bnd (fun x h1 => R.opt (tenumOp x) h1) ⟨⟩ := id rfl
/-! tests -/
@[simp] theorem t_and (a : E) (r : Es) : (evE F G (.and a r)).t ρ h = ((evE F G a).t ρ h).bnd (fun t h1 => if t then (evEs F G r).at_ ρ h1 else .ok false h1) ⟨⟩ := id rfl
@[simp] theorem t_or (a : E) (r : Es) : (evE F G (.or a r)).t ρ h = ((evE F G a).t ρ h).bnd (fun t h1 => if t then .ok true h1 else (evEs F G r).ot ρ h1) ⟨⟩ := id rfl
@[simp] theorem t_not (a : E) : (evE F G (.not a)).t ρ h = ((evE F G a).t ρ h).bnd (fun t h1 => .ok (!t) h1) ⟨⟩ := id rfl
@[simp] theorem t_ite (c a b : E) : (evE F G (.ite c a b)).t ρ h = ((evE F G c).t ρ h).bnd (fun t h1 => if t then (evE F G a).t ρ h1 else (evE F G b).t ρ h1) ⟨⟩ := id rfl
theorem t_cmp0 (o : COp) (a b : E) : (evE F G (.cmp o a b)).t ρ h = ((evE F G a).v ρ h).bind fun x h1 => ((evE F G b).v ρ h1).bind fun y h2 => R.opt (opCmp o h2 x y) h2 := by
  show R.bind (R.bind ((evE F G a).v ρ h) fun x h1 => R.bind ((evE F G b).v ρ h1) fun y h2 => R.opt ((opCmp o h2 x y).map D.bl) h2) _ = _
  rw [R.bind_assoc]
  congr 1; funext x h1
  rw [R.bind_assoc]
  congr 1; funext y h2
  cases opCmp o h2 x y <;> rfl
@[simp] theorem t_cmp (o : COp) (a b : E) : (evE F G (.cmp o a b)).t ρ h = ((evE F G a).v ρ h).bnd (fun x h1 => ((evE F G b).v ρ h1).bnd (fun y h2 => R.opt (opCmp o h2 x y) h2) ⟨⟩) ⟨⟩ := t_cmp0 o a b
theorem t_isi0 (a : E) (t : Ty) : (evE F G (.isi a t)).t ρ h = ((evE F G a).v ρ h).bind fun x h1 => if x.isO h1 then .bad else .ok (opIsi t h1 x) h1 := by
  show R.bind (R.bind ((evE F G a).v ρ h) fun x h1 => if x.isO h1 then .bad else .ok (D.bl (opIsi t h1 x)) h1) _ = _
  rw [R.bind_assoc]
  congr 1; funext x h1
  split <;> rfl
@[simp] theorem t_isi (a : E) (t : Ty) : (evE F G (.isi a t)).t ρ h = ((evE F G a).v ρ h).bnd (fun x h1 => if x.isO h1 then .bad else .ok (opIsi t h1 x) h1) ⟨⟩ := t_isi0 a t
@[simp] theorem v_isi2 (a : E) : (evE F G (.isi2 a)).v ρ h = ((evE F G a).v ρ h).bnd (fun x h1 => if x.isO h1 then .bad else .ok (.bl (isi2Op h1 x)) h1) ⟨⟩ := id rfl
@[simp] theorem v_isx (a : E) (k : Str) (yes no : List Str) : (evE F G (.isx a k yes no)).v ρ h = ((evE F G a).v ρ h).bnd (fun x h1 => R.opt (isxOp yes no x) h1) ⟨⟩ := id rfl
@[simp] theorem v_fld (a : E) (f : Str) (ks : List Str) : (evE F G (.fld a f ks)).v ρ h = ((evE F G a).v ρ h).bnd (fun x h1 => R.opt (fldOp f ks x) h1) ⟨⟩ := id rfl
theorem t_isi2_0 (a : E) : (evE F G (.isi2 a)).t ρ h = ((evE F G a).v ρ h).bind fun x h1 => if x.isO h1 then .bad else .ok (isi2Op h1 x) h1 := by
  show R.bind (R.bind ((evE F G a).v ρ h) fun x h1 => if x.isO h1 then .bad else .ok (D.bl (isi2Op h1 x)) h1) _ = _
  rw [R.bind_assoc]
  congr 1; funext x h1
  split <;> rfl
@[simp] theorem t_isi2 (a : E) : (evE F G (.isi2 a)).t ρ h = ((evE F G a).v ρ h).bnd (fun x h1 => if x.isO h1 then .bad else .ok (isi2Op h1 x) h1) ⟨⟩ := t_isi2_0 a
@[simp] theorem t_isx (a : E) (k : Str) (yes no : List Str) : (evE F G (.isx a k yes no)).t ρ h = ((evE F G (.isx a k yes no)).v ρ h).bnd (fun x h1 => R.opt (x.tru h1) h1) ⟨⟩ := id rfl
@[simp] theorem t_var (i : Nat) : (evE F G (.var i)).t ρ h = ((evE F G (.var i)).v ρ h).bnd (fun x h1 => R.opt (x.tru h1) h1) ⟨⟩ := id rfl
@[simp] theorem t_con (d : D) : (evE F G (.con d)).t ρ h = R.opt (d.tru h) h := id rfl
@[simp] theorem t_idx (a i : E) : (evE F G (.idx a i)).t ρ h = ((evE F G (.idx a i)).v ρ h).bnd (fun x h1 => R.opt (x.tru h1) h1) ⟨⟩ := id rfl
@[simp] theorem t_call (f : Nat) (es : Es) : (evE F G (.call f es)).t ρ h = ((evE F G (.call f es)).v ρ h).bnd (fun x h1 => R.opt (x.tru h1) h1) ⟨⟩ := id rfl
@[simp] theorem t_callK (f : Nat) (es kes : Es) (ks : List Nat) : (evE F G (.callK f es kes ks)).t ρ h = ((evE F G (.callK f es kes ks)).v ρ h).bnd (fun x h1 => R.opt (x.tru h1) h1) ⟨⟩ := id rfl
@[simp] theorem t_bf (f : Bf) (es : Es) : (evE F G (.bf f es)).t ρ h = ((evE F G (.bf f es)).v ρ h).bnd (fun x h1 => R.opt (x.tru h1) h1) ⟨⟩ := id rfl
@[simp] theorem t_bin (o : BOp) (a b : E) : (evE F G (.bin o a b)).t ρ h = ((evE F G (.bin o a b)).v ρ h).bnd (fun x h1 => R.opt (x.tru h1) h1) ⟨⟩ := id rfl
@[simp] theorem t_chain (o p : COp) (a b c : E) : (evE F G (.chain o p a b c)).t ρ h = ((evE F G (.chain o p a b c)).v ρ h).bnd (fun x h1 => R.opt (x.tru h1) h1) ⟨⟩ := id rfl
@[simp] theorem t_slc (a b c : E) : (evE F G (.slc a b c)).t ρ h = ((evE F G (.slc a b c)).v ρ h).bnd (fun x h1 => R.opt (x.tru h1) h1) ⟨⟩ := id rfl
/-! rows -/
@[simp] theorem l_nil : (evEs F G .nil).l ρ h = .ok [] h := id rfl
@[simp] theorem l_cons (e : E) (es : Es) : (evEs F G (.cons e es)).l ρ h = ((evE F G e).v ρ h).bnd (fun x h1 => ((evEs F G es).l ρ h1).bnd (fun xs h2 => .ok (x :: xs) h2) ⟨⟩) ⟨⟩ := id rfl
@[simp] theorem an_1 (e : E) : (evEs F G (.cons e .nil)).an ρ h = (evE F G e).v ρ h := id rfl
@[simp] theorem on_1 (e : E) : (evEs F G (.cons e .nil)).on ρ h = (evE F G e).v ρ h := id rfl
@[simp] theorem at_1 (e : E) : (evEs F G (.cons e .nil)).at_ ρ h = (evE F G e).t ρ h := id rfl
@[simp] theorem ot_1 (e : E) : (evEs F G (.cons e .nil)).ot ρ h = (evE F G e).t ρ h := id rfl
@[simp] theorem an_2 (e b : E) (es : Es) : (evEs F G (.cons e (.cons b es))).an ρ h = ((evE F G e).v ρ h).bnd (fun x h1 => (vBl x h1).bnd (fun t h2 => if t then (evEs F G (.cons b es)).an ρ h2 else .ok (.bl false) h2) ⟨⟩) ⟨⟩ := id rfl
@[simp] theorem on_2 (e b : E) (es : Es) : (evEs F G (.cons e (.cons b es))).on ρ h = ((evE F G e).v ρ h).bnd (fun x h1 => (vBl x h1).bnd (fun t h2 => if t then .ok (.bl true) h2 else (evEs F G (.cons b es)).on ρ h2) ⟨⟩) ⟨⟩ := id rfl
@[simp] theorem at_2 (e b : E) (es : Es) : (evEs F G (.cons e (.cons b es))).at_ ρ h = ((evE F G e).t ρ h).bnd (fun t h1 => if t then (evEs F G (.cons b es)).at_ ρ h1 else .ok false h1) ⟨⟩ := id rfl
@[simp] theorem ot_2 (e b : E) (es : Es) : (evEs F G (.cons e (.cons b es))).ot ρ h = ((evE F G e).t ρ h).bnd (fun t h1 => if t then .ok true h1 else (evEs F G (.cons b es)).ot ρ h1) ⟨⟩ := id rfl
/-! iterators -/
@[simp] theorem i_ev (e : E) : evI F G (.ev e) ρ h = ((evE F G e).v ρ h).bnd (fun x h1 => R.opt (x.src h1) h1) ⟨⟩ := id rfl
@[simp] theorem i_rng (n : E) : evI F G (.rng n) ρ h = ((evE F G n).v ρ h).bnd (fun x h1 => R.opt (x.isInt.bind fun n => if rngOk 0 n then some ⟨rngD 0 n, none⟩ else none) h1) ⟨⟩ := id rfl
@[simp] theorem i_zip (a b : E) : evI F G (.zip a b) ρ h = ((evE F G a).v ρ h).bnd (fun x h1 => ((evE F G b).v ρ h1).bnd (fun y h2 => R.opt (zipSrc x y) h2) ⟨⟩) ⟨⟩ := id rfl
@[simp] theorem i_enum (a : E) : evI F G (.enum a) ρ h = ((evE F G a).v ρ h).bnd (fun x h1 => R.opt (enumSrc x) h1) ⟨⟩ := id rfl
@[simp] theorem i_rng2 (a b : E) : evI F G (.rng2 a b) ρ h = ((evE F G a).v ρ h).bnd (fun x h1 => ((evE F G b).v ρ h1).bnd (fun y h2 => R.opt (x.isInt.bind fun i => y.isInt.bind fun j => if rngOk i j then some ⟨rngD i j, none⟩ else none) h2) ⟨⟩) ⟨⟩ := id rfl
/-! statements -/
@[simp] theorem s_nil : evSs F G .nil ρ h = .nxt ρ h := id rfl
@[simp] theorem s_cons (s : S) (ss : Ss) : evSs F G (.cons s ss) ρ h = (evS F G s ρ h).thn (evSs F G ss) ⟨⟩ := id rfl
@[simp] theorem s_asg (i : Nat) (e : E) : evS F G (.asg i e) ρ h = ((evE F G e).v ρ h).thn (fun x h1 => .nxt (ρ.set i (some x)) h1) ⟨⟩ := id rfl
@[simp] theorem s_asgLc (i : Nat) (e : E) : evS F G (.asgLc i e) ρ h = ((evE F G e).v ρ h).thn (fun x h1 => .nxt (ρ.set i (some x)) h1) ⟨⟩ := id rfl
@[simp] theorem s_par (i j : Nat) (a b : E) : evS F G (.par i j a b) ρ h = ((evE F G a).v ρ h).thn (fun x h1 => ((evE F G b).v ρ h1).thn (fun y h2 => .nxt ((ρ.set i (some x)).set j (some y)) h2) ⟨⟩) ⟨⟩ := id rfl
@[simp] theorem s_unp (is : List Nat) (e : E) : evS F G (.unp is e) ρ h = ((evE F G e).v ρ h).thn (fun x h1 => RS.opt ((Tg.tu is).put x ρ) h1) ⟨⟩ := id rfl
def R.thnX (r : R α) (ρ : Env) (f : α → Hh → RS) (_ : Lk f) : RS := r.thenX ρ f
@[simp] theorem thnX_ok (a : α) (h : Hh) (ρ : Env) (f : α → Hh → RS) (l : Lk f) : (R.ok a h).thnX ρ f l = f a h := id rfl
@[simp] theorem thnX_err (x : Xc) (h : Hh) (ρ : Env) (f : α → Hh → RS) (l : Lk f) : (R.err x h : R α).thnX ρ f l = .err ρ x h := id rfl
@[simp] theorem s_asgC (i f : Nat) (es : Es) : evS F G (.asgC i f es) ρ h = ((evEs F G es).l ρ h).thn (fun xs h1 => (F f xs h1).thnX ρ (fun x h2 => .nxt (ρ.set i (some x)) h2) ⟨⟩) ⟨⟩ := id rfl
@[simp] theorem s_expC (f : Nat) (es : Es) : evS F G (.expC f es) ρ h = ((evEs F G es).l ρ h).thn (fun xs h1 => (F f xs h1).thnX ρ (fun _ h2 => .nxt ρ h2) ⟨⟩) ⟨⟩ := id rfl
@[simp] theorem s_retC (f : Nat) (es : Es) : evS F G (.retC f es) ρ h = ((evEs F G es).l ρ h).thn (fun xs h1 => (F f xs h1).thnX ρ (fun x h2 => .ret x h2) ⟨⟩) ⟨⟩ := id rfl
@[simp] theorem s_raise (c : Str) : evS F G (.raise_ c) ρ h = .err ρ ⟨c, none⟩ h := id rfl
@[simp] theorem s_try (b : Ss) (c : Str) (yes no : List Str) (s : Ss) : evS F G (.try_ b c yes no s) ρ h = catchS yes no (evSs F G s) (evSs F G b ρ h) := id rfl
@[simp] theorem s_tryAs (b : Ss) (c : Str) (yes no : List Str) (i : Nat) (s : Ss) : evS F G (.tryAs b c yes no i s) ρ h = catchAs yes no i (evSs F G s) (evSs F G b ρ h) := id rfl
@[simp] theorem catA_nxt (yes no : List Str) (i : Nat) (f : Env → Hh → RS) (ρ : Env) (h : Hh) : catchAs yes no i f (.nxt ρ h) = .nxt ρ h := id rfl
@[simp] theorem catA_ret (yes no : List Str) (i : Nat) (f : Env → Hh → RS) (d : D) (h : Hh) : catchAs yes no i f (.ret d h) = .ret d h := id rfl
@[simp] theorem catA_err (yes no : List Str) (i : Nat) (f : Env → Hh → RS) (ρ : Env) (x : Xc) (h : Hh) : catchAs yes no i f (.err ρ x h) = if x.cls ∈ yes then dropS i (f (ρ.set i (some x.d)) h) else if x.cls ∈ no then .err ρ x h else .bad := id rfl
@[simp] theorem drop_nxt (i : Nat) (ρ : Env) (h : Hh) : dropS i (.nxt ρ h) = .nxt (ρ.set i none) h := id rfl
@[simp] theorem drop_ret (i : Nat) (d : D) (h : Hh) : dropS i (.ret d h) = .ret d h := id rfl
@[simp] theorem xd_none (c : Str) : Xc.d ⟨c, none⟩ = .exc c := id rfl
@[simp] theorem xd_some (c f : Str) (d : D) : Xc.d ⟨c, some (f, d)⟩ = .exf c f d := id rfl
@[simp] theorem catch_nxt (yes no : List Str) (f : Env → Hh → RS) (ρ : Env) (h : Hh) : catchS yes no f (.nxt ρ h) = .nxt ρ h := id rfl
@[simp] theorem catch_ret (yes no : List Str) (f : Env → Hh → RS) (d : D) (h : Hh) : catchS yes no f (.ret d h) = .ret d h := id rfl
@[simp] theorem catch_err (yes no : List Str) (f : Env → Hh → RS) (ρ : Env) (x : Xc) (h : Hh) : catchS yes no f (.err ρ x h) = if x.cls ∈ yes then f ρ h else if x.cls ∈ no then .err ρ x h else .bad := id rfl
def stoN (o : Option Hh) (ρ : Env) : RS := match o with
  | some h4 => .nxt ρ h4
  | none => .bad
@[simp] theorem stoN_some (h : Hh) (ρ : Env) : stoN (some h) ρ = .nxt ρ h := id rfl
@[simp] theorem s_sto (o i e : E) : evS F G (.sto o i e) ρ h = ((evE F G e).v ρ h).thn (fun x h1 => ((evE F G o).v ρ h1).thn (fun y h2 => ((evE F G i).v ρ h2).thn (fun z h3 => stoN (stoOp y z x h3) ρ) ⟨⟩) ⟨⟩) ⟨⟩ := id rfl
@[simp] theorem s_exp (e : E) : evS F G (.exp e) ρ h = ((evE F G e).v ρ h).thn (fun _ h1 => .nxt ρ h1) ⟨⟩ := id rfl
@[simp] theorem s_ret (e : E) : evS F G (.ret e) ρ h = ((evE F G e).v ρ h).thn (fun x h1 => .ret x h1) ⟨⟩ := id rfl
@[simp] theorem s_retN : evS F G .retN ρ h = .ret .non h := id rfl
@[simp] theorem s_ite (c : E) (a b : Ss) : evS F G (.ite c a b) ρ h = ((evE F G c).t ρ h).thn (fun t h1 => if t then evSs F G a ρ h1 else evSs F G b ρ h1) ⟨⟩ := id rfl
@[simp] theorem s_for (t : Tg) (it : I) (b : Ss) : evS F G (.for_ t it b) ρ h = (evI F G it ρ h).thn (fun s h1 => forLoop s.good t (evSs F G b) s.items ρ h1) ⟨⟩ := id rfl
@[simp] theorem s_whl (c : E) (b : Ss) : evS F G (.whl c b) ρ h = whlLoop (evE F G c).t (evSs F G b) wfuel ρ h := id rfl
@[simp] theorem v_mthIx (o : E) (es : Es) : (evE F G (.mth .index o es)).v ρ h = ((evE F G o).v ρ h).bnd (fun x h1 => if (x.ixs h1).isSome then ((evEs F G es).l ρ h1).bnd (fun xs h2 => R.opt (ixD x h2 xs) h2) ⟨⟩ else .bad) ⟨⟩ := id rfl
@[simp] theorem v_dcl (t : Tg) (it : I) (c k v : E) : (evE F G (.dcl t it c k v)).v ρ h = (evI F G it ρ h).bnd (fun s h1 => if sizeOk s.items.length then (dcLoop s.good (dcTurn t (evE F G c) (evE F G k) (evE F G v) ρ) s.items [] h1).bnd newDct ⟨⟩ else .bad) ⟨⟩ := id rfl
@[simp] theorem v_trng (a : E) : (evE F G (.trng a)).v ρ h = ((evE F G a).v ρ h).bnd (fun x h1 => R.opt (trngOp x) h1) ⟨⟩ := id rfl
@[simp] theorem v_sset (a : E) : (evE F G (.sset a)).v ρ h = ((evE F G a).v ρ h).bnd (fun x h1 => R.opt (ssetOp h1 x) h1) ⟨⟩ := id rfl
def augN (o : Option Hh) (r : Nat) (i : Nat) (ρ : Env) : RS := match o with
  | some h2 => .nxt (ρ.set i (some (.ref r))) h2
  | none => .bad
@[simp] theorem augN_some (h : Hh) (r i : Nat) (ρ : Env) : augN (some h) r i ρ = .nxt (ρ.set i (some (.ref r))) h := id rfl
theorem s_augL {i r : Nat} (e : E) (hi : ρ[i]? = some (some (.ref r))) : evS F G (.augL i e) ρ h = ((evE F G e).v ρ h).thn (fun y h1 => augN (augLOp r y h1) r i ρ) ⟨⟩ := by
  show (match ρ[i]? with | some (some (.ref r)) => ((evE F G e).v ρ h).then_ fun y h1 => (match augLOp r y h1 with | some h2 => RS.nxt (ρ.set i (some (.ref r))) h2 | none => .bad) | _ => .bad) = _
  rw [hi]
  show ((evE F G e).v ρ h).then_ _ = _
  cases (evE F G e).v ρ h with
  | ok y h1 => show (match augLOp r y h1 with | some h2 => RS.nxt (ρ.set i (some (.ref r))) h2 | none => .bad) = augN (augLOp r y h1) r i ρ; cases augLOp r y h1 <;> rfl
  | bad => rfl
  | err _ _ => rfl
@[simp] theorem v_mthCn (o : E) (es : Es) : (evE F G (.mth .count o es)).v ρ h = ((evE F G o).v ρ h).bnd (fun x h1 => if (x.cts h1).isSome then ((evEs F G es).l ρ h1).bnd (fun xs h2 => R.opt ((x.cts h2).bind fun ds => cntD ds xs) h2) ⟨⟩ else .bad) ⟨⟩ := id rfl
@[simp] theorem v_dpop (o k : E) : (evE F G (.dpop o k)).v ρ h = ((evE F G o).v ρ h).bnd (fun x h1 => if x.isDc h1 then ((evE F G k).v ρ h1).bnd (fun y h2 => dpopOp x y h2) ⟨⟩ else .bad) ⟨⟩ := id rfl
@[simp] theorem v_lcv (j i : Nat) (e : E) : (evE F G (.lcv j i e)).v ρ h = lcvOp (evE F G e).v ρ.length j ρ[i]? h := id rfl
@[simp] theorem v_lrg (n : E) : (evE F G (.lrg n)).v ρ h = ((evE F G n).v ρ h).bnd (fun x h1 => R.opt (lrgOp x) h1) ⟨⟩ := id rfl
@[simp] theorem v_srtK (a : E) (q : Str) : (evE F G (.srtK a q)).v ρ h = ((evE F G a).v ρ h).bnd (fun x h1 => if tbAt G h1 q then R.opt (srtKOp h1 x) h1 else .bad) ⟨⟩ := id rfl
@[simp] theorem v_mthAp (o : E) (es : Es) : (evE F G (.mth .append o es)).v ρ h = ((evE F G o).v ρ h).bnd (fun x h1 => if x.isL h1 then ((evEs F G es).l ρ h1).bnd (fun xs h2 => mthOp .append x xs h2) ⟨⟩ else .bad) ⟨⟩ := id rfl
@[simp] theorem v_mthPop (o : E) (es : Es) : (evE F G (.mth .pop o es)).v ρ h = ((evE F G o).v ρ h).bnd (fun x h1 => if x.isL h1 then ((evEs F G es).l ρ h1).bnd (fun xs h2 => mthOp .pop x xs h2) ⟨⟩ else .bad) ⟨⟩ := id rfl
@[simp] theorem v_mthPopA (o : E) (es : Es) : (evE F G (.mth .popAt o es)).v ρ h = ((evE F G o).v ρ h).bnd (fun x h1 => if x.isL h1 then ((evEs F G es).l ρ h1).bnd (fun xs h2 => mthOp .popAt x xs h2) ⟨⟩ else .bad) ⟨⟩ := id rfl
end
/-! operations -/
@[simp] theorem ofString_inj {a b : String} : (Str.ofString a = Str.ofString b) ↔ a = b := by
  refine ⟨fun e => ?_, fun e => by rw [e]⟩
  rw [Str.ofString_eq_toList, Str.ofString_eq_toList] at e
  have e1 : a.toList.map Char.toNat = b.toList.map Char.toNat := by
    have e2 := congrArg (fun s : Str => s.cps.toList) e
    simpa using e2
  have e3 : a.toList = b.toList := by
    have inj : ∀ (x y : List Char), x.map Char.toNat = y.map Char.toNat → x = y := by
      intro x
      induction x with
      | nil => intro y h; cases y with | nil => rfl | cons _ _ => simp at h
      | cons c x ih =>
        intro y h
        cases y with
        | nil => simp at h
        | cons d y =>
          (simp only [List.map_cons, List.cons.injEq] at h)
          rw [ih y h.2, Char.ext (UInt32.toNat_inj.mp h.1)]
    exact inj _ _ e1
  exact String.toList_inj.mp e3
section
variable {α : Type} {a b c d e : α} {xs : List α} {h : Hh}
@[simp] theorem atI_0 : L2.atI (a :: xs) 0 = some a := L2.atI_nat (j := 0) rfl
@[simp] theorem atI_1 : L2.atI (a :: b :: xs) 1 = some b := L2.atI_nat (j := 1) rfl
@[simp] theorem atI_2 : L2.atI (a :: b :: c :: xs) 2 = some c := L2.atI_nat (j := 2) rfl
@[simp] theorem atI_3 : L2.atI (a :: b :: c :: d :: xs) 3 = some d := L2.atI_nat (j := 3) rfl
@[simp] theorem atI_4 : L2.atI (a :: b :: c :: d :: e :: xs) 4 = some e := L2.atI_nat (j := 4) rfl
@[simp] theorem sizeOk_le {n : Nat} : sizeOk n = decide (n ≤ 16777216) := id rfl
@[simp] theorem bin_addI (i j : Int) : opBin .add h (.int i) (.int j) = some (.int (i + j)) := id rfl
@[simp] theorem bin_subI (i j : Int) : opBin .sub h (.int i) (.int j) = some (.int (i - j)) := id rfl
@[simp] theorem bin_addT (xs ys : List D) : opBin .add h (.tup xs) (.tup ys) = if sizeOk (xs.length + ys.length) then some (.tup (xs ++ ys)) else none := id rfl
@[simp] theorem bin_addL (xs ys : List D) : opBin .add h (.lst xs) (.lst ys) = if sizeOk (xs.length + ys.length) then some (.lst (xs ++ ys)) else none := id rfl
@[simp] theorem cmp_ltI (i j : Int) : opCmp .lt h (.int i) (.int j) = some (decide (i < j)) := id rfl
@[simp] theorem cmp_leI (i j : Int) : opCmp .le h (.int i) (.int j) = some (decide (i ≤ j)) := id rfl
@[simp] theorem cmp_gtI (i j : Int) : opCmp .gt h (.int i) (.int j) = some (decide (j < i)) := id rfl
@[simp] theorem cmp_geI (i j : Int) : opCmp .ge h (.int i) (.int j) = some (decide (j ≤ i)) := id rfl
@[simp] theorem cmp_eqS (x y : Str) : opCmp .eq h (.str x) (.str y) = some (decide (x = y)) := id rfl
@[simp] theorem cmp_neS (x y : Str) : opCmp .ne h (.str x) (.str y) = some (!decide (x = y)) := id rfl
@[simp] theorem cmp_eqI (i j : Int) : opCmp .eq h (.int i) (.int j) = some (i == j) := id rfl
@[simp] theorem cmp_neI (i j : Int) : opCmp .ne h (.int i) (.int j) = some (!(i == j)) := id rfl
@[simp] theorem cmp_eqB (i j : Bool) : opCmp .eq h (.bl i) (.bl j) = some (i == j) := by cases i <;> cases j <;> rfl
@[simp] theorem cmp_neB (i j : Bool) : opCmp .ne h (.bl i) (.bl j) = some (!(i == j)) := by cases i <;> cases j <;> rfl
@[simp] theorem cmp_isN (x : D) : opCmp .is h x .non = some x.isNon := id rfl
@[simp] theorem cmp_isB (x : D) (b : Bool) : opCmp .is h x (.bl b) = some (x.eqBl b) := id rfl
@[simp] theorem cmp_isnN (x : D) : opCmp .isn h x .non = some (!x.isNon) := id rfl
@[simp] theorem idx_tup (xs : List D) (i : Int) : opIdx h (.tup xs) (.int i) = L2.atI xs i := id rfl
@[simp] theorem idx_lst (xs : List D) (i : Int) : opIdx h (.lst xs) (.int i) = L2.atI xs i := id rfl
@[simp] theorem idx_fz (xs : List D) (i : Int) : opIdx h (.fz xs) (.int i) = L2.atI xs i := id rfl
@[simp] theorem vBl_bl (b : Bool) : vBl (.bl b) h = .ok b h := id rfl
@[simp] theorem tru_bl (b : Bool) : (D.bl b).tru h = some b := id rfl
@[simp] theorem tru_int (i : Int) : (D.int i).tru h = some (i != 0) := id rfl
@[simp] theorem tru_tup (xs : List D) : (D.tup xs).tru h = some (!xs.isEmpty) := id rfl
@[simp] theorem src_tup (xs : List D) : (D.tup xs).src h = some ⟨xs, none⟩ := id rfl
@[simp] theorem src_lst (xs : List D) : (D.lst xs).src h = some ⟨xs, none⟩ := id rfl
@[simp] theorem src_ftup (xs : List D) : (D.ftup xs).src h = some ⟨xs, none⟩ := id rfl
@[simp] theorem src_fz (xs : List D) : (D.fz xs).src h = some ⟨xs, none⟩ := id rfl
@[simp] theorem good_none (xs : List D) : (Src.mk xs none).good h = true := id rfl
@[simp] theorem goodf_none (xs : List D) : (Src.mk xs none).good = fun _ => true := id rfl
@[simp] theorem isI_int (i : Int) : (D.int i).isInt = some i := id rfl
@[simp] theorem bf_tupL (xs : List D) : opBf .tuple h [.lst xs] = some (.tup xs) := id rfl
@[simp] theorem bf_tupT (xs : List D) : opBf .tuple h [.tup xs] = some (.tup xs) := id rfl
@[simp] theorem bf_lenT (xs : List D) : opBf .len h [.tup xs] = some (.int xs.length) := id rfl
@[simp] theorem bf_lenL (xs : List D) : opBf .len h [.lst xs] = some (.int xs.length) := id rfl
@[simp] theorem bf_lenF (xs : List D) : opBf .len h [.fz xs] = some (.int xs.length) := id rfl
@[simp] theorem bf_intI (i : Int) : opBf .int h [.int i] = some (.int i) := id rfl
@[simp] theorem bf_intB (b : Bool) : opBf .int h [.bl b] = some (.int (if b then 1 else 0)) := id rfl
@[simp] theorem zip_tt (xs ys : List D) : zipSrc (.tup xs) (.tup ys) = some ⟨zipD xs ys, none⟩ := id rfl
@[simp] theorem zip_ll (xs ys : List D) : zipSrc (.lst xs) (.lst ys) = some ⟨zipD xs ys, none⟩ := id rfl
@[simp] theorem part_miss (p : P) (ρ : Env) : vPart true p ρ h = .ok none h := id rfl
@[simp] theorem part_some (p : P) (ρ : Env) : vPart false p ρ h = (p.v ρ h).bind fun d h1 => R.opt (d.isInt.map some) h1 := id rfl
@[simp] theorem miss_t : E.isMiss .miss = true := id rfl
@[simp] theorem miss_con (d : D) : E.isMiss (.con d) = false := id rfl
@[simp] theorem miss_var (d : Nat) : E.isMiss (.var d) = false := id rfl
@[simp] theorem miss_bin (o a b) : E.isMiss (.bin o a b) = false := id rfl
@[simp] theorem miss_neg (a) : E.isMiss (.neg a) = false := id rfl
theorem cok_shp {a b : D} (h1 : a.shp = true) (h2 : b.shp = true) : D.cok a b = true := by unfold D.cok; rw [h1, h2]; rfl
theorem cok_min {a b : D} (h1 : a.lay = true) (h2 : b.lay = true) (h3 : min a.dep b.dep ≤ 64) : D.cok a b = true := by unfold D.cok; rw [h1, h2, decide_eq_true h3, Bool.and_self, Bool.and_self, Bool.or_true]
@[simp] theorem in_nil (x : D) : opCmp .inn h x (.tup []) = (if x.shp then some false else none) := by
  show (if x.shp && (D.tup []).shp then some false else none) = _
  have : (D.tup []).shp = true := by decide
  rw [this, Bool.and_true]
@[simp] theorem strOk_lit (s : String) : PyData.strOk (Str.ofString s) = true := by
  rw [Str.ofString_eq_toList]
  unfold PyData.strOk
  simp only [List.all_toArray, List.all_map, List.all_eq_true, Function.comp]
  intro c _
  have hv : c.val.toNat.isValidChar := c.valid
  have : c.val.toNat < 1114112 := by
    rcases hv with z | z
    · omega
    · exact z.2
  exact decide_eq_true this
@[simp] theorem eqv_str (x y : Str) : (D.str x).eqv (.str y) = decide (x = y) := id rfl
@[simp] theorem eqv_int (x y : Int) : (D.int x).eqv (.int y) = (x == y) := id rfl
@[simp] theorem shp_str (x : Str) : (D.str x).shp = PyData.strOk x := by unfold D.shp D.lay D.dep; simp
@[simp] theorem shp_int (x : Int) : (D.int x).shp = true := id rfl
@[simp] theorem shp_bl (x : Bool) : (D.bl x).shp = true := id rfl
@[simp] theorem shp_non : D.non.shp = true := id rfl
theorem deps_le {n : Nat} : ∀ {xs : List D}, D.deps xs ≤ n ↔ ∀ x ∈ xs, x.dep ≤ n
  | [] => by simp [D.deps]
  | x :: xs => by simp [D.deps, Nat.max_le, deps_le (xs := xs)]
theorem lays_iff : ∀ {xs : List D}, D.lays xs = true ↔ ∀ x ∈ xs, x.lay = true
  | [] => by simp [D.lays]
  | x :: xs => by simp [D.lays, lays_iff (xs := xs)]
/-- a flat thing -/
def D.flat : D → Bool
  | .str x => PyData.strOk x
  | .int _ => true
  | .bl _ => true
  | .non => true
  | _ => false
theorem shp_flats {xs : List D} (h : xs.all D.flat = true) : (D.tup xs).shp = true := by
  have q : ∀ x ∈ xs, x.lay = true ∧ x.dep = 0 := fun x hx => by
    have := List.all_eq_true.mp h x hx
    cases x <;> first | exact ⟨rfl, rfl⟩ | exact ⟨this, rfl⟩ | cases this
  unfold D.shp D.lay D.dep
  rw [lays_iff.mpr fun x hx => (q x hx).1, Bool.true_and]
  have : D.deps xs ≤ 0 := deps_le.mpr fun x hx => Nat.le_of_eq (q x hx).2
  (exact decide_eq_true (by omega))
@[simp] theorem shp_strs0 : (D.tup []).shp = true := by decide
@[simp] theorem flat_str (x : Str) : (D.str x).flat = PyData.strOk x := id rfl
@[simp] theorem flat_int (x : Int) : (D.int x).flat = true := id rfl
theorem in_tup (x : D) (ys : List D) : opCmp .inn h x (.tup ys) = if x.shp && (D.tup ys).shp then some (ys.any fun y => y.eqv x) else none := id rfl
theorem nin_eq (x : D) (y : D) : opCmp .nin h x y = (opCmp .inn h x y).map (!·) := id rfl
@[simp] theorem in_strs1 (x y : Str) : opCmp .inn h (.str x) (.tup [.str y]) = if PyData.strOk x && (D.tup [.str y]).shp then some (decide (y = x)) else none := by rw [in_tup]; simp
@[simp] theorem in_strs2 (x : Str) (a b : String) : opCmp .inn h (.str x) (.tup [.str (.ofString a), .str (.ofString b)]) = if PyData.strOk x then some (decide (Str.ofString a = x) || decide (Str.ofString b = x)) else none := by rw [in_tup, shp_flats (by simp)]; simp
@[simp] theorem in_strs3 (x : Str) (a b c : String) : opCmp .inn h (.str x) (.tup [.str (.ofString a), .str (.ofString b), .str (.ofString c)]) = if PyData.strOk x then some (decide (Str.ofString a = x) || (decide (Str.ofString b = x) || decide (Str.ofString c = x))) else none := by rw [in_tup, shp_flats (by simp)]; simp
@[simp] theorem nin_strs2 (x : Str) (a b : String) : opCmp .nin h (.str x) (.tup [.str (.ofString a), .str (.ofString b)]) = if PyData.strOk x then some (!(decide (Str.ofString a = x) || decide (Str.ofString b = x))) else none := by rw [nin_eq, in_strs2]; split <;> rfl
@[simp] theorem nin_strs3 (x : Str) (a b c : String) : opCmp .nin h (.str x) (.tup [.str (.ofString a), .str (.ofString b), .str (.ofString c)]) = if PyData.strOk x then some (!(decide (Str.ofString a = x) || (decide (Str.ofString b = x) || decide (Str.ofString c = x)))) else none := by rw [nin_eq, in_strs3]; split <;> rfl
@[simp] theorem opt_ite {c : Prop} [Decidable c] {o p : Option α} : R.opt (if c then o else p) h = if c then R.opt o h else R.opt p h := by split <;> rfl
@[simp] theorem slc_tup (xs : List D) (l u : Option Int) : opSlc h (.tup xs) l u = some (.tup (cutD xs l u)) := id rfl
@[simp] theorem slc_lst (xs : List D) (l u : Option Int) : opSlc h (.lst xs) l u = some (.lst (cutD xs l u)) := id rfl
@[simp] theorem cut_1 (x : D) (xs : List D) : cutD (x :: xs) (some 1) none = xs := by
  have e : HT.sIx (xs.length + 1) 0 (some 1) = 1 := by show min (1 : Int).toNat (xs.length + 1) = 1; simp
  unfold cutD; simp only [List.length_cons, e, HT.sIx_none, List.drop_succ_cons, List.drop_zero, Nat.add_sub_cancel, List.take_length]
@[simp] theorem cut_2 (x y : D) (xs : List D) : cutD (x :: y :: xs) (some 2) none = xs := by
  have e : HT.sIx (xs.length + 1 + 1) 0 (some 2) = 2 := by show min (2 : Int).toNat (xs.length + 1 + 1) = 2; simp
  unfold cutD; simp only [List.length_cons, e, HT.sIx_none, List.drop_succ_cons, List.drop_zero]
  rw [show xs.length + 1 + 1 - 2 = xs.length from by omega, List.take_length]
@[simp] theorem cut_3 (x y z : D) (xs : List D) : cutD (x :: y :: z :: xs) (some 3) none = xs := by
  have e : HT.sIx (xs.length + 1 + 1 + 1) 0 (some 3) = 3 := by show min (3 : Int).toNat (xs.length + 1 + 1 + 1) = 3; simp
  unfold cutD; simp only [List.length_cons, e, HT.sIx_none, List.drop_succ_cons, List.drop_zero]
  rw [show xs.length + 1 + 1 + 1 - 3 = xs.length from by omega, List.take_length]
theorem cut_all (xs : List D) : cutD xs none none = xs := by
  unfold cutD; simp only [HT.sIx_none, List.drop_zero, Nat.sub_zero, List.take_length]
theorem cut_take (xs : List D) (n : Nat) : cutD xs none (some (n : Int)) = xs.take n := by
  unfold cutD; rw [HT.sIx_none, HT.sIx_nat, List.drop_zero, Nat.sub_zero, List.take_eq_take_iff]; omega
theorem cut_drop (xs : List D) (n : Nat) : cutD xs (some (n : Int)) none = xs.drop n := by
  unfold cutD; rw [HT.sIx_none, HT.sIx_nat]
  by_cases hn : n ≤ xs.length
  · rw [Nat.min_eq_left hn, List.take_of_length_le (by simp)]
  · rw [Nat.min_eq_right (by omega), List.drop_of_length_le (Nat.le_refl _), List.drop_of_length_le (by omega), List.take_nil]
@[simp] theorem cut_init (xs : List D) (x : D) : cutD (xs ++ [x]) none (some (-1)) = xs := by
  have e : HT.sIx (xs ++ [x]).length (xs ++ [x]).length (some (-1)) = xs.length := by
    show ((-1 : Int) + ((xs ++ [x]).length : Int)).toNat = _
    rw [List.length_append]; simp only [List.length_cons, List.length_nil]; omega
  unfold cutD
  rw [e, HT.sIx_none, List.drop_zero, Nat.sub_zero, List.take_left']
  rfl
@[simp] theorem atI_last (xs : List α) (v : α) : L2.atI (xs ++ [v]) (-1) = some v := L2.atI_last xs v
end
end PV
end

section
set_option maxRecDepth 100000
/-! PvW: loops run by the evaluator; numbers; a list of two numbers that draws. -/
namespace PW
open PySem PV
section
variable {turn : D → Hh → R (Option D)} {h : Hh}
theorem lcF (g : D → Option D) : ∀ {xs : List D} {acc : List D}, (∀ x ∈ xs, turn x h = .ok (g x) h) → lcLoop (fun _ => true) turn xs acc h = .ok (.lst (acc ++ xs.filterMap g)) h
  | [], acc, _ => by unfold lcLoop; simp
  | x :: xs, acc, p => by
    unfold lcLoop
    rw [if_pos rfl, p x List.mem_cons_self]
    have ih := fun acc => lcF g (xs := xs) (acc := acc) fun y hy => p y (List.mem_cons_of_mem _ hy)
    cases e : g x with
    | none => dsimp only; rw [ih, List.filterMap_cons_none e]
    | some y => dsimp only; rw [ih, List.filterMap_cons_some e]; simp
/-- items that are pictures -/
theorem lcFm {γ : Type} (f : γ → D) (g : γ → Option D) {zs : List γ} {acc : List D} (p : ∀ z ∈ zs, turn (f z) h = .ok (g z) h) : lcLoop (fun _ => true) turn (zs.map f) acc h = .ok (.lst (acc ++ zs.filterMap g)) h := by
  induction zs generalizing acc with
  | nil => unfold lcLoop; simp
  | cons z zs ih =>
    rw [List.map_cons]
    unfold lcLoop
    rw [if_pos rfl, p z List.mem_cons_self]
    have ih := fun acc => ih (acc := acc) fun y hy => p y (List.mem_cons_of_mem _ hy)
    cases e : g z with
    | none => dsimp only; rw [ih, List.filterMap_cons_none e]
    | some y => dsimp only; rw [ih, List.filterMap_cons_some e]; simp
theorem lcMm {γ : Type} (f : γ → D) (g : γ → D) {zs : List γ} {acc : List D} (p : ∀ z ∈ zs, turn (f z) h = .ok (some (g z)) h) : lcLoop (fun _ => true) turn (zs.map f) acc h = .ok (.lst (acc ++ zs.map g)) h := by
  rw [lcFm f (fun z => some (g z)) p]
  simp
/-- over 0 .. n-1 -/
theorem rngD_nat (n : Nat) : rngD 0 (n : Int) = (List.range n).map fun k : Nat => D.int (k : Int) := by
  unfold rngD
  have : ((n : Int) - 0).toNat = n := by omega
  rw [this]
  exact List.map_congr_left fun k _ => by rw [Int.zero_add]
/-- turns that change the heap -/
theorem lcS {γ : Type} (Inv : Hh → Prop) (f : γ → D) (P : γ → Prop) : ∀ {xs acc : List D} {h : Hh}, Inv h → (∀ x ∈ xs, ∀ h, Inv h → ∃ z h', turn x h = .ok (some (f z)) h' ∧ P z ∧ Inv h') →
    ∃ (zs : List γ) (h' : Hh), lcLoop (fun _ => true) turn xs acc h = .ok (.lst (acc ++ zs.map f)) h' ∧ zs.length = xs.length ∧ (∀ z ∈ zs, P z) ∧ Inv h'
  | [], acc, h, i, _ => ⟨[], h, by unfold lcLoop; simp, rfl, by simp, i⟩
  | x :: xs, acc, h, i, st => by
    obtain ⟨z, h1, e, pz, i1⟩ := st x List.mem_cons_self h i
    obtain ⟨zs, h2, e2, l2, p2, i2⟩ := lcS Inv f P (xs := xs) (acc := acc ++ [f z]) i1 fun y hy => st y (List.mem_cons_of_mem _ hy)
    refine ⟨z :: zs, h2, ?_, by simp [l2], fun y hy => (List.mem_cons.mp hy).elim (fun e => by rw [e]; exact pz) (p2 y), i2⟩
    unfold lcLoop
    rw [if_pos rfl, e]
    dsimp only
    rw [e2]
    simp
end
theorem forG {t : Tg} {body : PV.Env → Hh → RS} (I : PV.Env → Hh → Prop) : ∀ {xs : List D} {ρ : PV.Env} {h : Hh}, I ρ h → (∀ x ∈ xs, ∀ ρ h, I ρ h → ∃ ρ1 ρ2 h2, t.put x ρ = some ρ1 ∧ body ρ1 h = .nxt ρ2 h2 ∧ I ρ2 h2) → ∃ ρ' h', forLoop (fun _ => true) t body xs ρ h = .nxt ρ' h' ∧ I ρ' h'
  | [], ρ, h, hi, _ => ⟨ρ, h, by unfold forLoop; rfl, hi⟩
  | x :: xs, ρ, h, hi, st => by
    obtain ⟨ρ1, ρ2, h2, e1, e2, i2⟩ := st x List.mem_cons_self ρ h hi
    obtain ⟨ρ', h', e3, i3⟩ := forG I (xs := xs) i2 fun y hy => st y (List.mem_cons_of_mem _ hy)
    refine ⟨ρ', h', ?_, i3⟩
    unfold forLoop
    rw [if_pos rfl, e1]
    dsimp only
    rw [e2]
    exact e3
/-- .. with what is done so far -/
theorem forP {t : Tg} {body : PV.Env → Hh → RS} (I : List D → PV.Env → Hh → Prop) {all : List D} (st : ∀ d x r, d ++ x :: r = all → ∀ ρ h, I d ρ h → ∃ ρ1 ρ2 h2, t.put x ρ = some ρ1 ∧ body ρ1 h = .nxt ρ2 h2 ∧ I (d ++ [x]) ρ2 h2) :
    ∀ {xs done : List D} {ρ : PV.Env} {h : Hh}, done ++ xs = all → I done ρ h → ∃ ρ' h', forLoop (fun _ => true) t body xs ρ h = .nxt ρ' h' ∧ I all ρ' h'
  | [], done, ρ, h, e, hi => ⟨ρ, h, by unfold forLoop; rfl, by rw [List.append_nil] at e; rw [← e]; exact hi⟩
  | x :: xs, done, ρ, h, e, hi => by
    obtain ⟨ρ1, ρ2, h2, e1, e2, i2⟩ := st done x xs e ρ h hi
    obtain ⟨ρ', h', e3, i3⟩ := forP I st (xs := xs) (done := done ++ [x]) (by rw [List.append_assoc]; exact e) i2
    refine ⟨ρ', h', ?_, i3⟩
    unfold forLoop
    rw [if_pos rfl, e1]
    dsimp only
    rw [e2]
    exact e3
/-- a while whose measure falls -/
theorem whlI {c : PV.Env → Hh → R Bool} {b : PV.Env → Hh → RS} (I : Nat → PV.Env → Hh → Prop) (Done : PV.Env → Hh → Prop)
    (st : ∀ n ρ h, I n ρ h → (∃ h1, c ρ h = .ok false h1 ∧ Done ρ h1) ∨ (∃ h1, c ρ h = .ok true h1 ∧ ∃ n' ρ2 h2, n' < n ∧ b ρ h1 = .nxt ρ2 h2 ∧ I n' ρ2 h2)) : ∀ (k n : Nat) (ρ : PV.Env) (h : Hh), I n ρ h → n < k → ∃ ρ' h', whlLoop c b k ρ h = .nxt ρ' h' ∧ Done ρ' h'
  | 0, n, ρ, h, _, hk => absurd hk (Nat.not_lt_zero _)
  | k + 1, n, ρ, h, i, hk => by
    rcases st n ρ h i with ⟨h1, e, d⟩ | ⟨h1, e, n', ρ2, h2, hn, e2, i2⟩
    · refine ⟨ρ, h1, ?_, d⟩
      unfold whlLoop
      rw [e]; rfl
    · obtain ⟨ρ', h', e3, d⟩ := whlI I Done st k n' ρ2 h2 i2 (by omega)
      refine ⟨ρ', h', ?_, d⟩
      unfold whlLoop
      rw [e, R.then_ok, if_pos rfl, e2]
      exact e3
theorem wf : wfuel = 18446744073709551616 := by decide +kernel
/-! numbers -/
theorem h62 : (2 : Int) ^ 62 = 4611686018427387904 := by decide +kernel
theorem h64 : (2 : Int) ^ 64 = 18446744073709551616 := by decide +kernel
theorem rng_ok {i j : Int} (a : 0 ≤ i ∧ i ≤ 1000000000) (b : 0 ≤ j ∧ j ≤ 1000000000) : rngOk i j = true := by
  unfold rngOk
  rw [h62]
  (simp only [Bool.and_eq_true, decide_eq_true_eq])
  omega
theorem mulOk_l {i j : Int} (h0 : 0 ≤ i) (h1 : i < 18446744073709551616) : mulOk i j = true := by
  unfold mulOk
  rw [h64]
  have : decide (-18446744073709551616 < i ∧ i < 18446744073709551616) = true := decide_eq_true (by omega)
  rw [this]; simp
theorem mulOk_r {i j : Int} (h0 : 0 ≤ j) (h1 : j < 18446744073709551616) : mulOk i j = true := by
  unfold mulOk
  rw [h64]
  have : decide (-18446744073709551616 < j ∧ j < 18446744073709551616) = true := decide_eq_true (by omega)
  rw [this]; simp
theorem bin_mul {h : Hh} {i j : Int} (m : mulOk i j = true) : opBin .mul h (.int i) (.int j) = some (.int (i * j)) := by
  show (if mulOk i j then some (D.int (i * j)) else none) = _
  rw [if_pos m]
theorem bin_mod {h : Hh} {i j : Int} (m : 0 < j) : opBin .mod h (.int i) (.int j) = some (.int (i % j)) := by
  show (if 0 < j then some (D.int (i % j)) else none) = _
  rw [if_pos m]
theorem log_small {j : Int} (m : 0 < j) (m2 : j < 1073741824) : j.natAbs.log2 < 9000 := by
  have h1 : j.natAbs.log2 < 31 := (Nat.log2_lt (by omega)).mpr (by omega)
  omega
theorem bin_fdiv {h : Hh} {i j : Int} (m : 0 < j) (m2 : j < 1073741824) : opBin .fdiv h (.int i) (.int j) = some (.int (i / j)) := by
  show (if 0 < j ∧ j.natAbs.log2 < 9000 then some (D.int (i / j)) else none) = _
  rw [if_pos ⟨m, log_small m m2⟩]
theorem pow18 {h : Hh} : opBin .pow h (.int 10) (.int 18) = some (.int 1000000000000000000) := by
  show (if powOk 10 18 then some (D.int (10 ^ (18 : Int).toNat)) else none) = _
  have : powOk 10 18 = true := by decide +kernel
  rw [if_pos this]; rfl
/-! a list of two numbers among what stands -/
def Cup (pre : Hh) (a b : Int) (post : Hh) : Hh := pre ++ (.lst [.int a, .int b] :: post)
structure CupOk (a b : Int) : Prop where
  a0 : 0 ≤ a
  b0 : 0 ≤ b
  b1 : b < 2147483648
section
variable {pre post : Hh} {a b : Int} {k : Nat}
theorem cup_at (pre : Hh) (a b : Int) (post : Hh) : (Cup pre a b post)[pre.length]? = some (.lst [.int a, .int b]) := by simp [Cup]
theorem cup_len : (Cup pre a b post).length = pre.length + 1 + post.length := by simp [Cup]; omega
theorem cup_app {more : Hh} : Cup pre a b post ++ more = Cup pre a b (post ++ more) := by simp [Cup]
theorem cup_0 : opIdx (Cup pre a b post) (.ref pre.length) (.int 0) = some (.int a) := by simp only [opIdx, cup_at]; simp
theorem cup_1 : opIdx (Cup pre a b post) (.ref pre.length) (.int 1) = some (.int b) := by simp only [opIdx, cup_at]; simp
theorem sto_0 (x : Int) : stoOp (.ref pre.length) (.int 0) (.int x) (Cup pre a b post) = some (Cup pre x b post) := by
  simp only [stoOp, cup_at]
  have : L2.ixN [D.int a, D.int b].length 0 = some 0 := rfl
  rw [this]
  simp [Cup]
theorem sto_1 (x : Int) : stoOp (.ref pre.length) (.int 1) (.int x) (Cup pre a b post) = some (Cup pre a x post) := by
  simp only [stoOp, cup_at]
  have : L2.ixN [D.int a, D.int b].length 1 = some 1 := rfl
  rw [this]
  simp [Cup]
end
/-! the last object: a list that grows -/
section
variable {base : Hh} {xs : List D} {x : D}
theorem last_at (o : O) : (base ++ [o])[base.length]? = some o := by simp
theorem last_app (h : xs.length + 1 ≤ 16777216) : mthOp .append (.ref base.length) [x] (base ++ [.lst xs]) = .ok .non (base ++ [.lst (xs ++ [x])]) := by
  have e : (base ++ [O.lst xs])[base.length]? = some (.lst xs) := by simp
  show mthRef .append base.length [x] (base ++ [.lst xs]) = _
  unfold mthRef
  rw [e]
  dsimp only
  show (match mtAppend xs [x] with | some p => R.ok p.1 _ | none => R.bad) = _
  have e2 : mtAppend xs [x] = some (.non, xs ++ [x]) := by
    show (if PV.sizeOk (xs.length + 1) then some (D.non, xs ++ [x]) else none) = _
    exact if_pos (show PV.sizeOk (xs.length + 1) = true from decide_eq_true h)
  rw [e2]
  dsimp only
  congr 1
  simp
theorem last_isL : (D.ref base.length).isL (base ++ [.lst xs]) = true := by
  show (match (base ++ [O.lst xs])[base.length]? with | some (.lst _) => true | _ => false) = true
  rw [last_at]
theorem last_seq : (D.ref base.length).seq (base ++ [.lst xs]) = some xs := by
  show (match (base ++ [O.lst xs])[base.length]? with | some (.lst xs) => some xs | _ => none) = _
  rw [last_at]
theorem last_tuple : opBf .tuple (base ++ [.lst xs]) [.ref base.length] = some (.tup xs) := by
  show ((D.ref base.length).seq (base ++ [.lst xs])).map D.tup = _
  rw [last_seq]; rfl
end
/-! heaps of lists of numbers: nothing leads on -/
def HF (h : Hh) : Prop := ∀ o ∈ h, ∃ xs : List Int, o = .lst (xs.map .int)
theorem rlts_ints (n : Nat) (xs : List Int) : D.rlts n (xs.map .int) = true := by
  induction xs with
  | nil => rfl
  | cons x xs ih => show (D.rlt n (.int x) && D.rlts n _) = true; rw [ih]; rfl
theorem HF.rlt {h : Hh} (f : HF h) (n : Nat) : Hh.rlt h n = true := by
  unfold Hh.rlt
  rw [List.all_eq_true]
  intro o ho
  obtain ⟨xs, rfl⟩ := f o ho
  exact rlts_ints n xs
theorem HF.nil : HF [] := fun o ho => by cases ho
theorem HF.cup {pre : Hh} (f : HF pre) (a b : Int) : HF (Cup pre a b []) := fun o ho => by
  rcases List.mem_append.mp ho with h | h
  · exact f o h
  · simp at h; exact ⟨[a, b], h⟩
/-- data without objects -/
theorem frz_of {h : Hh} {n : Nat} : ∀ (k : Nat) (d : D), d.rlt 0 = true → D.frz h n k d = d := by
  have gen : ∀ (k : Nat), (∀ d : D, d.rlt 0 = true → D.frz h n k d = d) := by
    intro k
    induction k with
    | zero => intro d _; rfl
    | succ k ih =>
      intro d hd
      have mp : ∀ xs : List D, D.rlts 0 xs = true → xs.map (D.frz h n k) = xs := by
        intro xs
        induction xs with
        | nil => intro _; rfl
        | cons x xs ihx =>
          intro hx
          have hx : (D.rlt 0 x && D.rlts 0 xs) = true := hx
          rw [Bool.and_eq_true] at hx
          rw [List.map_cons, ih x hx.1, ihx hx.2]
      cases d with
      | tup xs => show D.tup _ = _; rw [mp xs hd]
      | lst xs => show D.lst _ = _; rw [mp xs hd]
      | ref i => exact absurd hd (by show decide (i < 0) ≠ true; simp)
      | _ => rfl
  exact gen
mutual
theorem rlt_mono {n m : Nat} (hm : n ≤ m) : ∀ d : D, d.rlt n = true → d.rlt m = true
  | .non, _ => rfl
  | .bl _, _ => rfl
  | .int _, _ => rfl
  | .str _, _ => rfl
  | .tup xs, h => rlts_mono hm xs h
  | .lst xs, h => rlts_mono hm xs h
  | .fz xs, h => rlts_mono hm xs h
  | .ftup xs, h => rlts_mono hm xs h
  | .exc _, _ => rfl
  | .exf _ _ d, h => rlt_mono hm d h
  | .ref i, h => by
    have h : decide (i < n) = true := h
    have := of_decide_eq_true h
    (exact decide_eq_true (by omega))
theorem rlts_mono {n m : Nat} (hm : n ≤ m) : ∀ xs : List D, D.rlts n xs = true → D.rlts m xs = true
  | [], _ => rfl
  | x :: xs, h => by
    have h : (D.rlt n x && D.rlts n xs) = true := h
    rw [Bool.and_eq_true] at h
    show (D.rlt m x && D.rlts m xs) = true
    rw [rlt_mono hm x h.1, rlts_mono hm xs h.2]; rfl
end
/-- a def that gives data without objects, and lets all go that it made -/
theorem finR_fz {n : Nat} {d : D} {pre more : Hh} (f : HF pre) (hn : n = pre.length) (hd : d.rlt 0 = true) : finR true n (.ret d (pre ++ more)) = .ok d pre := by
  subst hn
  show finD true pre.length d (pre ++ more) = _
  unfold finD
  have e : (pre ++ more).take pre.length = pre := by simp
  rw [if_pos rfl, frz_of 4 d hd, e, f.rlt, rlt_mono (Nat.zero_le _) d hd]
  rfl
/-! lists of numbers -/
theorem ints_map : ∀ xs : List Int, D.ints (xs.map .int) = some xs
  | [] => rfl
  | x :: xs => by show (D.ints (xs.map .int)).map _ = _; rw [ints_map xs]; rfl
theorem ints_flat (xs : List Int) : (xs.map D.int).all D.flat = true := by simp
theorem shp_lstF {xs : List D} (h : xs.all D.flat = true) : (D.lst xs).shp = true := by
  have q : ∀ x ∈ xs, x.lay = true ∧ x.dep = 0 := fun x hx => by
    have := List.all_eq_true.mp h x hx
    cases x <;> first | exact ⟨rfl, rfl⟩ | exact ⟨this, rfl⟩ | cases this
  unfold D.shp D.lay D.dep
  rw [lays_iff.mpr fun x hx => (q x hx).1, Bool.true_and]
  have : D.deps xs ≤ 0 := deps_le.mpr fun x hx => Nat.le_of_eq (q x hx).2
  (exact decide_eq_true (by omega))
theorem ne_nil {h : Hh} {i : Nat} {xs : List Int} (e : h[i]? = some (.lst (xs.map .int))) : opCmp .ne h (.ref i) (.lst []) = some (!xs.isEmpty) := by
  have r : (D.ref i).res h = .lst (xs.map .int) := by
    show (match h[i]? with | some (.lst xs) => D.lst xs | _ => .ref i) = _
    rw [e]
  have z : (D.lst (xs.map D.int)).eqv (.lst []) = xs.isEmpty := by cases xs <;> rfl
  show (opEq h (.ref i) (.lst [])).map (!·) = _
  have : opEq h (.ref i) (.lst []) = some xs.isEmpty := by
    show (if D.cok ((D.ref i).res h) (D.lst []) then some (((D.ref i).res h).eqv (.lst [])) else none) = _
    rw [r, cok_shp (shp_lstF (ints_flat xs)) rfl, z]; rfl
  rw [this]; rfl
/-! objects at their place -/
theorem mt_pop {h : Hh} {i : Nat} {xs : List D} {x : D} (e : h[i]? = some (.lst (xs ++ [x]))) : mthOp .pop (.ref i) [] h = .ok x (h.set i (.lst xs)) := by
  show mthRef .pop i [] h = _
  unfold mthRef
  rw [e]
  show (match mtPop (xs ++ [x]) [] with | some p => R.ok p.1 _ | none => R.bad) = _
  have : mtPop (xs ++ [x]) [] = some (x, xs) := by
    show (((xs ++ [x])[(xs ++ [x]).length - 1]?).map fun y => (y, (xs ++ [x]).dropLast)) = _
    simp
  rw [this]
theorem mt_app {h : Hh} {i : Nat} {xs : List D} {x : D} (e : h[i]? = some (.lst xs)) (hz : xs.length + 1 ≤ 16777216) : mthOp .append (.ref i) [x] h = .ok .non (h.set i (.lst (xs ++ [x]))) := by
  show mthRef .append i [x] h = _
  unfold mthRef
  rw [e]
  show (match mtAppend xs [x] with | some p => R.ok p.1 _ | none => R.bad) = _
  have : mtAppend xs [x] = some (.non, xs ++ [x]) := if_pos (show PV.sizeOk (xs.length + 1) = true from decide_eq_true hz)
  rw [this]
theorem is_l {h : Hh} {i : Nat} {xs : List D} (e : h[i]? = some (.lst xs)) : (D.ref i).isL h = true := by
  show (match h[i]? with | some (.lst _) => true | _ => false) = true
  rw [e]
theorem in_dct {h : Hh} {i : Nat} {kvs : List (L2.Key × D)} (e : h[i]? = some (.dct kvs)) (k : Int) : opCmp .inn h (.int k) (.ref i) = some (hasKey (.inl k) kvs) := by
  show opIn h (.int k) (.ref i) = _
  unfold opIn
  simp only [e]; rfl
theorem nin_dct {h : Hh} {i : Nat} {kvs : List (L2.Key × D)} (e : h[i]? = some (.dct kvs)) (k : Int) : opCmp .nin h (.int k) (.ref i) = some (!hasKey (.inl k) kvs) := by
  rw [nin_eq, in_dct e]; rfl
theorem sto_dct {h : Hh} {i : Nat} {kvs : List (L2.Key × D)} (e : h[i]? = some (.dct kvs)) (hz : kvs.length + 1 ≤ 16777216) (k : Int) (x : D) : stoOp (.ref i) (.int k) x h = some (h.set i (.dct (putD kvs (.inl k) x))) := by
  show (match h[i]? with | some (.lst ys) => _ | some (.dct kvs) => _ | _ => none) = _
  rw [e]
  show (if PV.sizeOk (kvs.length + 1) then _ else none) = _
  exact if_pos (decide_eq_true hz)
theorem aug_l {h : Hh} {i : Nat} {xs ys : List D} (e : h[i]? = some (.lst xs)) (hz : xs.length + ys.length ≤ 16777216) : augLOp i (.lst ys) h = some (h.set i (.lst (xs ++ ys))) := by
  unfold augLOp
  rw [e]
  show (if PV.sizeOk (xs.length + ys.length) then _ else none) = _
  exact if_pos (decide_eq_true hz)
theorem sorted_ref {h : Hh} {i : Nat} {xs : List Int} (e : h[i]? = some (.lst (xs.map .int))) : opBf .sorted h [.ref i] = some (.lst ((srtI xs).map .int)) := by
  show bfSorted h [.ref i] = _
  unfold bfSorted
  simp only [e]
  unfold srtItems
  rw [ints_map]; rfl
theorem hasKey_any {k : L2.Key} : ∀ {kvs : List (L2.Key × D)}, hasKey k kvs = kvs.any fun p => decide (p.1 = k)
  | [] => by simp [hasKey, valD]
  | p :: kvs => by
    have ih := hasKey_any (k := k) (kvs := kvs)
    unfold hasKey valD at ih ⊢
    rw [List.find?_cons, List.any_cons, ← ih]
    cases e : decide (p.1 = k) <;> simp
theorem putD_new {k : L2.Key} {x : D} {kvs : List (L2.Key × D)} (h : (kvs.any fun p => decide (p.1 = k)) = false) : putD kvs k x = kvs ++ [(k, x)] := by
  unfold putD
  rw [h]; rfl
theorem valD_put {k k2 : L2.Key} {x : D} {kvs : List (L2.Key × D)} : valD (putD kvs k x) k2 = if k = k2 then some x else valD kvs k2 := by
  unfold putD
  split
  · rename_i hany
    have gen : ∀ kvs : List (L2.Key × D), valD (kvs.map fun kv => if kv.1 = k then (kv.1, x) else kv) k2 = if k = k2 ∧ (kvs.any fun kv => decide (kv.1 = k)) = true then some x else valD kvs k2 := by
      intro kvs
      induction kvs with
      | nil => simp [valD]
      | cons p kvs ih =>
        unfold valD at ih ⊢
        rw [List.map_cons, List.find?_cons, List.find?_cons, List.any_cons]
        by_cases e : p.1 = k
        · by_cases e2 : k = k2
          · subst e2; simp [e]
          · have e3 : ¬ p.1 = k2 := fun z => e2 (e.symm.trans z)
            rw [if_pos e]
            simp only [e3, decide_false]
            rw [ih]; simp [e2]
        · rw [if_neg e]
          by_cases e2 : p.1 = k2
          · have e3 : ¬ k = k2 := fun z => e (e2.trans z.symm)
            simp [e2, e3]
          · simp only [e2, decide_false, e, Bool.false_or]
            exact ih
    rw [gen]
    by_cases e : k = k2
    · rw [if_pos ⟨e, hany⟩, if_pos e]
    · rw [if_neg (fun z => e z.1), if_neg e]
  · rename_i hany
    have hk : ∀ p ∈ kvs, p.1 ≠ k := fun p hp z => hany (List.any_eq_true.mpr ⟨p, hp, decide_eq_true z⟩)
    unfold valD
    rw [List.find?_append]
    by_cases e : k = k2
    · subst e
      have : kvs.find? (fun kv => decide (kv.1 = k)) = none := List.find?_eq_none.mpr fun p hp hc => hk p hp (of_decide_eq_true hc)
      rw [this]; simp
    · rw [if_neg e]
      cases kvs.find? (fun kv => decide (kv.1 = k2)) with
      | some p => simp
      | none => simp [e]
theorem nodup_le {f : List Nat} {N : Nat} (nd : f.Nodup) (h : ∀ n ∈ f, n < N) : f.length ≤ N := by
  have p : f.Perm ((List.range N).filter fun n => decide (n ∈ f)) := (List.perm_ext_iff_of_nodup nd (List.nodup_range.filter _)).mpr fun n => by
    rw [List.mem_filter, List.mem_range]
    constructor
    · intro hn; exact ⟨h n hn, decide_eq_true hn⟩
    · intro hn; exact of_decide_eq_true hn.2
  rw [p.length_eq]
  have := List.length_filter_le (fun n => decide (n ∈ f)) (List.range N)
  rwa [List.length_range] at this
/-! dict comprehensions -/
theorem dcMm {γ : Type} {turn : D → Hh → R (Option (L2.Key × D))} {h : Hh} (f : γ → D) (g : γ → L2.Key × D) {zs : List γ} {acc : List (L2.Key × D)} (p : ∀ z ∈ zs, turn (f z) h = .ok (some (g z)) h) : dcLoop (fun _ => true) turn (zs.map f) acc h = .ok (zs.foldl (fun acc z => putD acc (g z).1 (g z).2) acc) h := by
  induction zs generalizing acc with
  | nil => unfold dcLoop; simp
  | cons z zs ih =>
    rw [List.map_cons]
    unfold dcLoop
    rw [if_pos rfl, p z List.mem_cons_self]
    dsimp only
    rw [ih fun y hy => p y (List.mem_cons_of_mem _ hy)]; rfl
theorem idx_dct {h : Hh} {i : Nat} {kvs : List (L2.Key × D)} (e : h[i]? = some (.dct kvs)) (k : Int) : opIdx h (.ref i) (.int k) = valD kvs (.inl k) := by
  show (match h[i]?, D.int k with | some (.lst xs), .int i => L2.atI xs i | some (.dct kvs), y => (match y.key with | some k => valD kvs k | none => none) | _, _ => none) = _
  rw [e]; rfl
theorem idx_lref {h : Hh} {i : Nat} {xs : List D} (e : h[i]? = some (.lst xs)) (k : Int) : opIdx h (.ref i) (.int k) = L2.atI xs k := by
  show (match h[i]?, D.int k with | some (.lst xs), .int i => L2.atI xs i | some (.dct kvs), y => (match y.key with | some k => valD kvs k | none => none) | _, _ => none) = _
  rw [e]
theorem len_lref {h : Hh} {i : Nat} {xs : List D} (e : h[i]? = some (.lst xs)) : opBf .len h [.ref i] = some (.int xs.length) := by
  show (match h[i]? with | some (.lst ys) => some (D.int ys.length) | some (.dct kvs) => some (D.int kvs.length) | _ => none) = _
  rw [e]
theorem any_ints (xs : List Int) (z : Int) : ((xs.map D.int).any fun y => y.eqv (.int z)) = decide (z ∈ xs) := by
  induction xs with
  | nil => simp
  | cons x xs ih =>
    rw [List.map_cons, List.any_cons, ih, eqv_int]
    by_cases e : z = x
    · subst e; simp
    · have e2 : (x == z) = false := beq_eq_false_iff_ne.mpr fun q => e q.symm
      rw [e2]; simp [e]
theorem in_lref {h : Hh} {i : Nat} {xs : List Int} (e : h[i]? = some (.lst (xs.map .int))) (z : Int) : opCmp .inn h (.int z) (.ref i) = some (decide (z ∈ xs)) := by
  show opIn h (.int z) (.ref i) = _
  unfold opIn
  simp only [e]
  rw [shp_lstF (ints_flat xs), any_ints, shp_int]; rfl
theorem nin_lref {h : Hh} {i : Nat} {xs : List Int} (e : h[i]? = some (.lst (xs.map .int))) (z : Int) : opCmp .nin h (.int z) (.ref i) = some (!decide (z ∈ xs)) := by
  rw [nin_eq, in_lref e]; rfl
/-! plain data, so deep at the most -/
inductive Nc : Nat → D → Prop
  | non {n : Nat} : Nc n .non
  | bl {n : Nat} (b : Bool) : Nc n (.bl b)
  | int {n : Nat} (i : Int) : Nc n (.int i)
  | str {n : Nat} (x : Str) : Nc n (.str x)
  | tup {n : Nat} {xs : List D} : xs.length ≤ 1000000 → (∀ x ∈ xs, Nc n x) → Nc (n + 1) (.tup xs)
  | lst {n : Nat} {xs : List D} : xs.length ≤ 1000000 → (∀ x ∈ xs, Nc n x) → Nc (n + 1) (.lst xs)
theorem Nc.up {n : Nat} {d : D} (h : Nc n d) : ∀ m, n ≤ m → Nc m d := by
  induction h with
  | non => intro m _; exact .non
  | bl b => intro m _; exact .bl b
  | int i => intro m _; exact .int i
  | str x => intro m _; exact .str x
  | tup hl _ ih => intro m hm; obtain ⟨k, rfl⟩ : ∃ k, m = k + 1 := ⟨m - 1, by omega⟩; exact .tup hl fun x hx => ih x hx k (by omega)
  | lst hl _ ih => intro m hm; obtain ⟨k, rfl⟩ : ∃ k, m = k + 1 := ⟨m - 1, by omega⟩; exact .lst hl fun x hx => ih x hx k (by omega)
theorem lcT {turn : D → Hh → R (Option D)} {h : Hh} : ∀ {xs : List D} {acc : List D}, (∀ x ∈ xs, turn x h = .ok (some (.bl true)) h) → lcLoop (fun _ => true) turn xs acc h = .ok (.lst (acc ++ List.replicate xs.length (.bl true))) h
  | [], acc, _ => by unfold lcLoop; simp
  | x :: xs, acc, t => by
    unfold lcLoop
    rw [if_pos rfl, t x List.mem_cons_self]
    dsimp only
    rw [lcT fun y hy => t y (List.mem_cons_of_mem _ hy)]
    simp [List.replicate_succ]
theorem bls_map {γ : Type} (p : γ → Bool) : ∀ xs : List γ, D.bls (xs.map fun x => .bl (p x)) = some (xs.map p)
  | [] => rfl
  | x :: xs => by show (D.bls (xs.map fun x => .bl (p x))).map _ = _; rw [bls_map p xs]; rfl
theorem all_map {γ : Type} {h : Hh} (p : γ → Bool) (xs : List γ) : opBf .all h [.lst (xs.map fun x => .bl (p x))] = some (.bl (xs.all p)) := by
  show ((some (xs.map fun x => D.bl (p x))).bind D.bls).map _ = _
  rw [Option.bind_some, bls_map]
  show some (D.bl ((xs.map p).all id)) = _
  rw [List.all_map]; rfl
theorem all_rep {h : Hh} (n : Nat) : opBf .all h [.lst (List.replicate n (.bl true))] = some (.bl true) := by
  have : List.replicate n (D.bl true) = (List.range n).map fun x => .bl ((fun _ => true) x) := by
    rw [List.map_const', List.length_range]
  rw [this, all_map]
  simp
end PW
end

section
/-! KdA: kinds as a type of their own; what is replaced at their variables. No program in sight. -/
set_option maxRecDepth 100000
namespace Kn
open PySem PV
inductive A2 {α β : Type} (P : α → β → Prop) : List α → List β → Prop
  | nil : A2 P [] []
  | cons {a b as bs} : P a b → A2 P as bs → A2 P (a :: as) (b :: bs)
theorem A2.len {α β : Type} {P : α → β → Prop} {xs : List α} {ys : List β} (h : A2 P xs ys) : xs.length = ys.length := by
  induction h with
  | nil => rfl
  | cons _ _ ih => simp [ih]
theorem A2.app {α β : Type} {P : α → β → Prop} {xs xs' : List α} {ys ys' : List β} (h : A2 P xs ys) (h' : A2 P xs' ys') : A2 P (xs ++ xs') (ys ++ ys') := by
  induction h with
  | nil => exact h'
  | cons p _ ih => exact .cons p ih
theorem A2.imp {α β : Type} {P Q : α → β → Prop} {xs : List α} {ys : List β} (h : A2 P xs ys) (f : ∀ a b, P a b → Q a b) : A2 Q xs ys := by
  induction h with
  | nil => exact .nil
  | cons p _ ih => exact .cons (f _ _ p) ih
theorem A2.get {α β : Type} {P : α → β → Prop} : ∀ {xs : List α} {ys : List β} {k : Nat} {x : α}, A2 P xs ys → xs[k]? = some x → ∃ y, ys[k]? = some y ∧ P x y
  | _, _, _, _, .nil, e => (by simp at e)
  | _, _, 0, _, .cons p _, e => by simp at e; subst e; exact ⟨_, rfl, p⟩
  | _, _, k + 1, _, .cons _ t, e => by
    obtain ⟨y, h1, h2⟩ := A2.get (k := k) t (by simpa using e)
    exact ⟨y, by simpa using h1, h2⟩
theorem A2.of_get {α β : Type} {P : α → β → Prop} : ∀ {xs : List α} {ys : List β}, xs.length = ys.length → (∀ (k : Nat) (x : α) (y : β), xs[k]? = some x → ys[k]? = some y → P x y) → A2 P xs ys
  | [], [], _, _ => .nil
  | [], _ :: _, hl, _ => by cases hl
  | _ :: _, [], hl, _ => by cases hl
  | x :: xs, y :: ys, hl, h => .cons (h 0 x y rfl rfl) (A2.of_get (Nat.succ.inj hl) fun k a b ha hb => h (k + 1) a b (by simpa using ha) (by simpa using hb))
theorem lcA {turn : D → Hh → R (Option D)} {h : Hh} : ∀ {xs ys : List D} {acc : List D}, A2 (fun x y => turn x h = .ok (some y) h) xs ys → lcLoop (fun _ => true) turn xs acc h = .ok (.lst (acc ++ ys)) h
  | [], _, acc, .nil => by unfold lcLoop; simp
  | x :: xs, _, acc, .cons (b := y) p t => by
    unfold lcLoop
    rw [if_pos rfl, p]
    dsimp only
    rw [lcA t]
    simp
/-- with a filter -/
theorem lcF {turn : D → Hh → R (Option D)} {h : Hh} (g : D → Option D) : ∀ {xs : List D} {acc : List D}, (∀ x ∈ xs, turn x h = .ok (g x) h) → lcLoop (fun _ => true) turn xs acc h = .ok (.lst (acc ++ xs.filterMap g)) h
  | [], acc, _ => by unfold lcLoop; simp
  | x :: xs, acc, p => by
    unfold lcLoop
    rw [if_pos rfl, p x List.mem_cons_self]
    have ih := fun acc => lcF g (xs := xs) (acc := acc) fun y hy => p y (List.mem_cons_of_mem _ hy)
    cases e : g x with
    | none => dsimp only; rw [ih, List.filterMap_cons_none e]
    | some y => dsimp only; rw [ih, List.filterMap_cons_some e]; simp

/-! ### kinds -/
inductive Un where | cel | som | re
inductive Mn where | row | one | room | not (n : Nat) | code (n : Nat)
mutual
inductive Kd where
  | int | free (n : Nat) | var (n : Nat) | un (w : Un) (k : Kd) | mn (m : Mn) (ks : Ks) | to (n : Nat) (ks : Ks) (l : Kd)
inductive Ks where
  | nil | cons (b : D) (k : Kd) (r : Ks)
end
@[simp] def Un.nm : Un → Str
  | .cel => "cell" | .som => "some" | .re => "rec"
@[simp] def Un.bn : Un → Nat
  | .cel => 0 | .som => 1 | .re => 1
@[simp] def Mn.nm : Mn → Str
  | .row => "row" | .one => "one" | .room => "room" | .not _ => "not" | .code _ => "code"
@[simp] def Mn.bn : Mn → Nat
  | .not n => n | .code n => n | _ => 0
mutual
/-- a kind as data -/
def Kd.d : Kd → D
  | .int => .tup [.str "int"]
  | .free n => .tup [.str "free", .int n]
  | .var n => .tup [.str "var", .int n]
  | .un w k => .tup [.str w.nm, k.d]
  | .mn .row ks => .tup [.str "row", .tup ks.ds]
  | .mn .one ks => .tup [.str "one", .tup ks.ds]
  | .mn .room ks => .tup [.str "room", .tup ks.fs]
  | .mn (.not n) ks => .tup [.str "not", .int n, .tup ks.ds]
  | .mn (.code n) ks => .tup [.str "code", .int n, .tup ks.gs]
  | .to n ks l => .tup [.str "to", .int n, .tup ks.ds, l.d]
def Ks.ds : Ks → List D
  | .nil => []
  | .cons _ k r => k.d :: r.ds
def Ks.fs : Ks → List D
  | .nil => []
  | .cons b k r => .tup [k.d, b] :: r.fs
def Ks.gs : Ks → List D
  | .nil => []
  | .cons b k r => .tup [b, k.d] :: r.gs
end
def Ks.len : Ks → Nat
  | .nil => 0
  | .cons _ _ r => r.len + 1
@[simp] theorem ds_len : ∀ ks : Ks, ks.ds.length = ks.len
  | .nil => rfl
  | .cons _ _ r => by show r.ds.length + 1 = r.len + 1; rw [ds_len r]
@[simp] theorem fs_len : ∀ ks : Ks, ks.fs.length = ks.len
  | .nil => rfl
  | .cons _ _ r => by show r.fs.length + 1 = r.len + 1; rw [fs_len r]
@[simp] theorem gs_len : ∀ ks : Ks, ks.gs.length = ks.len
  | .nil => rfl
  | .cons _ _ r => by show r.gs.length + 1 = r.len + 1; rw [gs_len r]
mutual
def Kd.dep : Kd → Nat
  | .un _ k => k.dep + 1
  | .mn _ ks => ks.dep + 1
  | .to _ ks l => max ks.dep l.dep + 1
  | _ => 0
def Ks.dep : Ks → Nat
  | .nil => 0
  | .cons _ k r => max k.dep r.dep
end
mutual
/-- rows are short -/
def Kd.sm : Kd → Prop
  | .un _ k => k.sm
  | .mn _ ks => ks.len ≤ 1000 ∧ ks.sm
  | .to _ ks l => ks.len ≤ 1000 ∧ ks.sm ∧ l.sm
  | _ => True
def Ks.sm : Ks → Prop
  | .nil => True
  | .cons _ k r => k.sm ∧ r.sm
end
/-- the kinds within -/
def Kd.ins : Kd → List D
  | .un _ k => [k.d]
  | .mn _ ks => ks.ds
  | .to _ ks l => ks.ds ++ [l.d]
  | _ => []
def Kd.bn : Kd → Nat
  | .un w _ => w.bn
  | .mn m _ => m.bn
  | .to n _ _ => n
  | _ => 0
/-- other kinds at the variables: g under how many, free, the number -/
abbrev Leaf := Nat → Bool → Nat → Kd
mutual
def Kd.tr (g : Leaf) (u : Nat) : Kd → Kd
  | .int => .int
  | .free n => g u true n
  | .var n => g u false n
  | .un w k => .un w (k.tr g (u + w.bn))
  | .mn m ks => .mn m (ks.tr g (u + m.bn))
  | .to n ks l => .to n (ks.tr g (u + n)) (l.tr g (u + n))
def Ks.tr (g : Leaf) (u : Nat) : Ks → Ks
  | .nil => .nil
  | .cons b k r => .cons b (k.tr g u) (r.tr g u)
end
@[simp] theorem tr_len (g : Leaf) (u : Nat) : ∀ ks : Ks, (ks.tr g u).len = ks.len
  | .nil => rfl
  | .cons _ _ r => by show (r.tr g u).len + 1 = r.len + 1; rw [tr_len g u r]
/-- the kinds within, turned -/
def Kd.tri (g : Leaf) (u : Nat) : Kd → List D
  | .un w k => [(k.tr g (u + w.bn)).d]
  | .mn m ks => (ks.tr g (u + m.bn)).ds
  | .to n ks l => (ks.tr g (u + n)).ds ++ [(l.tr g (u + n)).d]
  | _ => []
/-- the kinds within turned, at a level of their own -/
def Kd.inn (g : Leaf) (v : Nat) : Kd → Kd
  | .un w k => .un w (k.tr g v)
  | .mn m ks => .mn m (ks.tr g v)
  | .to n ks l => .to n (ks.tr g v) (l.tr g v)
  | k => k
def Kd.ini (g : Leaf) (v : Nat) : Kd → List D
  | .un w k => [(k.tr g v).d]
  | .mn m ks => (ks.tr g v).ds
  | .to n ks l => (ks.tr g v).ds ++ [(l.tr g v).d]
  | _ => []
theorem tri_ini (g : Leaf) (u : Nat) (d : Kd) : d.tri g u = d.ini g (u + d.bn) := by cases d <;> rfl
def Kd.leaf : Kd → Bool
  | .int => true | .free _ => true | .var _ => true
  | _ => false
theorem tr_inn (g : Leaf) (u : Nat) {d : Kd} (h : d.leaf = false) : d.tr g u = d.inn g (u + d.bn) := by cases d <;> first | rfl | cases h
mutual
/-- variables in scope -/
def Kd.wk (f u : Nat) : Kd → Prop
  | .int => True
  | .free n => n < f
  | .var n => n < u
  | .un w k => k.wk f (u + w.bn)
  | .mn m ks => ks.wk f (u + m.bn)
  | .to n ks l => ks.wk f (u + n) ∧ l.wk f (u + n)
def Ks.wk (f u : Nat) : Ks → Prop
  | .nil => True
  | .cons _ k r => k.wk f u ∧ r.wk f u
end
mutual
theorem tr_tr (g g' : Leaf) : ∀ (k : Kd) (u : Nat), (k.tr g u).tr g' u = k.tr (fun u f n => (g u f n).tr g' u) u
  | .int, u => rfl
  | .free n, u => rfl
  | .var n, u => rfl
  | .un w k, u => by simp only [Kd.tr, tr_tr g g' k]
  | .mn m ks, u => by simp only [Kd.tr, trs_trs g g' ks]
  | .to n ks l, u => by simp only [Kd.tr, trs_trs g g' ks, tr_tr g g' l]
theorem trs_trs (g g' : Leaf) : ∀ (ks : Ks) (u : Nat), (ks.tr g u).tr g' u = ks.tr (fun u f n => (g u f n).tr g' u) u
  | .nil, u => rfl
  | .cons b k r, u => by simp only [Ks.tr, tr_tr g g' k, trs_trs g g' r]
end
mutual
/-- the same, where they are the same at the variables in scope -/
theorem tr_eq {g g' : Leaf} {F : Nat} : ∀ (k : Kd) (u : Nat), k.wk F u → (∀ v, u ≤ v → (∀ n, n < F → g v true n = g' v true n) ∧ ∀ n, n < v → g v false n = g' v false n) → k.tr g u = k.tr g' u
  | .int, u, _, _ => rfl
  | .free n, u, hw, h => (h u (Nat.le_refl _)).1 n hw
  | .var n, u, hw, h => (h u (Nat.le_refl _)).2 n hw
  | .un w k, u, hw, h => by simp only [Kd.tr]; rw [tr_eq k (u + w.bn) hw fun v hv => h v (by omega)]
  | .mn m ks, u, hw, h => by simp only [Kd.tr]; rw [trs_eq ks (u + m.bn) hw fun v hv => h v (by omega)]
  | .to n ks l, u, hw, h => by simp only [Kd.tr]; rw [trs_eq ks (u + n) hw.1 fun v hv => h v (by omega), tr_eq l (u + n) hw.2 fun v hv => h v (by omega)]
theorem trs_eq {g g' : Leaf} {F : Nat} : ∀ (ks : Ks) (u : Nat), ks.wk F u → (∀ v, u ≤ v → (∀ n, n < F → g v true n = g' v true n) ∧ ∀ n, n < v → g v false n = g' v false n) → ks.tr g u = ks.tr g' u
  | .nil, u, _, _ => rfl
  | .cons b k r, u, hw, h => by simp only [Ks.tr]; rw [tr_eq k u hw.1 h, trs_eq r u hw.2 h]
end
mutual
theorem tr_id : ∀ (k : Kd) (u : Nat), k.tr (fun _ f n => if f then .free n else .var n) u = k
  | .int, u => rfl
  | .free n, u => rfl
  | .var n, u => rfl
  | .un w k, u => by simp only [Kd.tr, tr_id k]
  | .mn m ks, u => by simp only [Kd.tr, trs_id ks]
  | .to n ks l, u => by simp only [Kd.tr, trs_id ks, tr_id l]
theorem trs_id : ∀ (ks : Ks) (u : Nat), ks.tr (fun _ f n => if f then .free n else .var n) u = ks
  | .nil, u => rfl
  | .cons b k r, u => by simp only [Ks.tr, tr_id k, trs_id r]
end
/-- stays as it is -/
theorem tr_stay {g : Leaf} {F : Nat} (k : Kd) (u : Nat) (hw : k.wk F u) (h : ∀ v, u ≤ v → (∀ n, n < F → g v true n = .free n) ∧ ∀ n, n < v → g v false n = .var n) : k.tr g u = k :=
  (tr_eq (g' := fun _ f n => if f then .free n else .var n) k u hw fun v hv => ⟨fun n hn => (h v hv).1 n hn, fun n hn => (h v hv).2 n hn⟩).trans (tr_id k u)
mutual
theorem wk_le {F F' : Nat} : ∀ (k : Kd) {u u' : Nat}, k.wk F u → F ≤ F' → u ≤ u' → k.wk F' u'
  | .int, u, u', _, _, _ => trivial
  | .free n, u, u', hw, hf, hu => Nat.lt_of_lt_of_le hw hf
  | .var n, u, u', hw, hf, hu => Nat.lt_of_lt_of_le hw hu
  | .un w k, u, u', hw, hf, hu => wk_le k (u := u + w.bn) (u' := u' + w.bn) hw hf (by omega)
  | .mn m ks, u, u', hw, hf, hu => wks_le ks (u := u + m.bn) (u' := u' + m.bn) hw hf (by omega)
  | .to n ks l, u, u', hw, hf, hu => ⟨wks_le ks (u := u + n) (u' := u' + n) hw.1 hf (by omega), wk_le l (u := u + n) (u' := u' + n) hw.2 hf (by omega)⟩
theorem wks_le {F F' : Nat} : ∀ (ks : Ks) {u u' : Nat}, ks.wk F u → F ≤ F' → u ≤ u' → ks.wk F' u'
  | .nil, u, u', _, _, _ => trivial
  | .cons b k r, u, u', hw, hf, hu => ⟨wk_le k hw.1 hf hu, wks_le r hw.2 hf hu⟩
end
mutual
/-- scope behind a replacing -/
theorem tr_wk {g : Leaf} {F F' : Nat} {m : Nat → Nat} : ∀ (k : Kd) (u : Nat), k.wk F u → (∀ v, u ≤ v → (∀ n, n < F → (g v true n).wk F' (m v)) ∧ ∀ n, n < v → (g v false n).wk F' (m v)) → (∀ v w, u ≤ v → m (v + w) = m v + w) → (k.tr g u).wk F' (m u)
  | .int, u, _, _, _ => trivial
  | .free n, u, hw, h, _ => (h u (Nat.le_refl _)).1 n hw
  | .var n, u, hw, h, _ => (h u (Nat.le_refl _)).2 n hw
  | .un w k, u, hw, h, hm => by
    have := tr_wk k (u + w.bn) hw (fun v hv => h v (by omega)) fun v x hv => hm v x (by omega)
    rw [hm u w.bn (Nat.le_refl _)] at this; exact this
  | .mn m' ks, u, hw, h, hm => by
    have := trs_wk ks (u + m'.bn) hw (fun v hv => h v (by omega)) fun v x hv => hm v x (by omega)
    rw [hm u m'.bn (Nat.le_refl _)] at this; exact this
  | .to n ks l, u, hw, h, hm => by
    have h1 := trs_wk ks (u + n) hw.1 (fun v hv => h v (by omega)) fun v x hv => hm v x (by omega)
    have h2 := tr_wk l (u + n) hw.2 (fun v hv => h v (by omega)) fun v x hv => hm v x (by omega)
    rw [hm u n (Nat.le_refl _)] at h1 h2
    exact ⟨h1, h2⟩
theorem trs_wk {g : Leaf} {F F' : Nat} {m : Nat → Nat} : ∀ (ks : Ks) (u : Nat), ks.wk F u → (∀ v, u ≤ v → (∀ n, n < F → (g v true n).wk F' (m v)) ∧ ∀ n, n < v → (g v false n).wk F' (m v)) → (∀ v w, u ≤ v → m (v + w) = m v + w) → (ks.tr g u).wk F' (m u)
  | .nil, u, _, _, _ => trivial
  | .cons b k r, u, hw, h, hm => ⟨tr_wk k u hw.1 h hm, trs_wk r u hw.2 h hm⟩
end
mutual
theorem tr_sm {g : Leaf} (h : ∀ v f n, (g v f n).sm) : ∀ (k : Kd) (u : Nat), k.sm → (k.tr g u).sm
  | .int, u, _ => trivial
  | .free n, u, _ => h u true n
  | .var n, u, _ => h u false n
  | .un w k, u, hs => tr_sm h k (u + w.bn) hs
  | .mn m ks, u, hs => ⟨by rw [tr_len]; exact hs.1, trs_sm h ks (u + m.bn) hs.2⟩
  | .to n ks l, u, hs => ⟨by rw [tr_len]; exact hs.1, trs_sm h ks (u + n) hs.2.1, tr_sm h l (u + n) hs.2.2⟩
theorem trs_sm {g : Leaf} (h : ∀ v f n, (g v f n).sm) : ∀ (ks : Ks) (u : Nat), ks.sm → (ks.tr g u).sm
  | .nil, u, _ => trivial
  | .cons b k r, u, hs => ⟨tr_sm h k u hs.1, trs_sm h r u hs.2⟩
end
mutual
theorem tr_dep {g : Leaf} {N : Nat} (h : ∀ v f n, (g v f n).dep ≤ N) : ∀ (k : Kd) (u : Nat), (k.tr g u).dep ≤ k.dep + N
  | .int, u => Nat.zero_le _
  | .free n, u => Nat.le_trans (h u true n) (Nat.le_add_left _ _)
  | .var n, u => Nat.le_trans (h u false n) (Nat.le_add_left _ _)
  | .un w k, u => by have := tr_dep h k (u + w.bn); simp only [Kd.tr, Kd.dep]; omega
  | .mn m ks, u => by have := trs_dep h ks (u + m.bn); simp only [Kd.tr, Kd.dep]; omega
  | .to n ks l, u => by have := trs_dep h ks (u + n); have := tr_dep h l (u + n); simp only [Kd.tr, Kd.dep]; omega
theorem trs_dep {g : Leaf} {N : Nat} (h : ∀ v f n, (g v f n).dep ≤ N) : ∀ (ks : Ks) (u : Nat), (ks.tr g u).dep ≤ ks.dep + N
  | .nil, u => Nat.zero_le _
  | .cons b k r, u => by have := tr_dep h k u; have := trs_dep h r u; simp only [Ks.tr, Ks.dep]; omega
end
/-! ### the replacings of the program -/
/-- an opened binder's -/
def putG (ss : List Kd) : Leaf := fun u f n => if f then .free n else if n < u then .var n else match ss[n - u]? with
  | some k => k
  | none => .var (n - ss.length)
/-- a shut binder's: where an order has a number -/
def shutG (o : List Nat) : Leaf := fun u f n => if f then (if n ∈ o then .var (u + o.idxOf n) else .free n) else if n < u then .var n else .var (n + o.length)
def fillG (ss : List Kd) : Leaf := fun _ f n => if f then ss.getD n .int else .var n
end Kn
end

section
/-! KdI: what is a kind, among any data. No program in sight. -/
set_option maxRecDepth 100000
namespace Kn
open PySem PV
mutual
/-- plain data of a size that walks -/
def pl : D → Bool
  | .non => true
  | .bl _ => true
  | .int _ => true
  | .str x => PyData.strOk x
  | .tup xs => decide (xs.length ≤ 1000000) && pls xs
  | .lst xs => decide (xs.length ≤ 1000000) && pls xs
  | .ref _ => false
  | .fz _ => false
  | .ftup _ => false
  | .exc _ => false
  | .exf _ _ _ => false
def pls : List D → Bool
  | [] => true
  | x :: xs => pl x && pls xs
end
theorem pls_iff : ∀ {xs : List D}, pls xs = true ↔ ∀ x ∈ xs, pl x = true
  | [] => by simp [pls]
  | x :: xs => by simp [pls, pls_iff (xs := xs)]
mutual
theorem pl_lay : ∀ d : D, pl d = true → d.lay = true
  | .non, _ => rfl
  | .bl _, _ => rfl
  | .int _, _ => rfl
  | .str _, h => h
  | .tup xs, h => by simp only [pl, Bool.and_eq_true] at h; exact pls_lays xs h.2
  | .lst xs, h => by simp only [pl, Bool.and_eq_true] at h; exact pls_lays xs h.2
  | .ref _, h => by cases h
  | .fz _, h => by cases h
  | .ftup _, h => by cases h
  | .exc _, h => by cases h
  | .exf _ _ _, h => by cases h
theorem pls_lays : ∀ xs : List D, pls xs = true → D.lays xs = true
  | [], _ => rfl
  | x :: xs, h => by
    simp only [pls, Bool.and_eq_true] at h
    show (x.lay && D.lays xs) = true
    rw [pl_lay x h.1, pls_lays xs h.2]; rfl
end
/-- plain, and of a depth that == reads -/
def P64 (d : D) : Prop := pl d = true ∧ d.dep ≤ 64
theorem P64.shp {d : D} (h : P64 d) : d.shp = true := by
  unfold D.shp
  rw [pl_lay d h.1, Bool.true_and]
  exact decide_eq_true h.2
theorem P64.sub {xs : List D} (h : P64 (.tup xs)) {x : D} (hx : x ∈ xs) : P64 x := by
  have h1 := h.1
  have h2 : D.deps xs + 1 ≤ 64 := h.2
  simp only [pl, Bool.and_eq_true] at h1
  have := deps_le.mp (Nat.le_refl (D.deps xs)) x hx
  exact ⟨pls_iff.mp h1.2 x hx, by omega⟩
theorem P64.len {xs : List D} (h : P64 (.tup xs)) : xs.length ≤ 1000000 := by
  have h1 := h.1
  simp only [pl, Bool.and_eq_true, decide_eq_true_eq] at h1
  exact h1.1
theorem P64.subd {xs : List D} {n : Nat} (h : (D.tup xs).dep ≤ n + 1) {x : D} (hx : x ∈ xs) : x.dep ≤ n := by
  have h2 : D.deps xs + 1 ≤ n + 1 := h
  have := deps_le.mp (Nat.le_refl (D.deps xs)) x hx
  omega
theorem P64.tl {x : D} {xs : List D} (h : P64 (.tup (x :: xs))) : P64 (.tup xs) := by
  have h1 := h.1
  have h2 : D.deps (x :: xs) + 1 ≤ 64 := h.2
  simp only [pl, pls, Bool.and_eq_true, decide_eq_true_eq, List.length_cons] at h1
  simp only [D.deps] at h2
  refine ⟨?_, ?_⟩
  · simp only [pl, Bool.and_eq_true, decide_eq_true_eq]; exact ⟨by omega, h1.2.2⟩
  · show D.deps xs + 1 ≤ 64; omega
theorem P64.nf {x : D} (h : P64 x) : x.isF = false := by cases x <;> first | rfl | cases h.1
def isHd : D → Bool
  | .tup (.str _ :: _) => true
  | _ => false
def isHds : D → Bool
  | .tup xs => xs.all isHd
  | _ => false
def isPr : D → Bool
  | .tup [_, _] => true
  | _ => false
def isPrs : D → Bool
  | .tup xs => xs.all isPr
  | _ => false
def isNt : D → Bool
  | .int i => decide (0 ≤ i)
  | _ => false
def isBl : D → Bool
  | .bl _ => true
  | _ => false
def fst : D → D
  | .tup (x :: _) => x
  | _ => .non
def snd : D → D
  | .tup (_ :: x :: _) => x
  | _ => .non
def items : D → List D
  | .tup xs => xs
  | _ => []
def ltD : D → D → Bool
  | .int i, .int j => decide (i < j)
  | _, _ => false
def rise : List D → Bool
  | x :: y :: r => ltD x y && rise (y :: r)
  | _ => true
def rising (xs : List D) : Bool := xs.all isNt && rise xs
/-- the head is a variable's -/
def hdV : D → Bool
  | .tup (.str w :: _) => decide (w = "free") || decide (w = "var")
  | _ => false
def bnd (i : Int) : Bool := decide (0 ≤ i) && decide (i ≤ 10000)
def one1 (p : D → Bool) : List D → Bool
  | [x] => p x
  | _ => false
def two2 (p : D → D → Bool) : List D → Bool
  | [x, y] => p x y
  | _ => false
def three3 (p : D → D → D → Bool) : List D → Bool
  | [x, y, z] => p x y z
  | _ => false
def inB : D → Bool
  | .int n => bnd n
  | _ => false
def form (w : Str) (rest : List D) : Bool :=
    if w = "int" then rest.isEmpty
    else if w = "free" ∨ w = "var" then one1 isNt rest
    else if w = "cell" ∨ w = "some" ∨ w = "rec" then one1 (fun x => isHd x && (!decide (w = "rec") || !hdV x)) rest
    else if w = "row" ∨ w = "one" then one1 (fun x => isHds x && (decide (w = "row") || !(items x).isEmpty)) rest
    else if w = "room" then one1 (fun x => isPrs x && (items x).all fun p => isBl (snd p)) rest
    else if w = "not" then two2 (fun n x => inB n && isHds x) rest
    else if w = "to" then three3 (fun n x y => inB n && (isHds x && isHd y)) rest
    else if w = "code" then two2 (fun n x => inB n && (isPrs x && rising ((items x).map fst))) rest
    else false
/-- the kinds within, and how many are bound there; of what has the form -/
def inn (w : Str) (rest : List D) : List D :=
    if w = "cell" ∨ w = "some" ∨ w = "rec" then rest
    else if w = "row" ∨ w = "one" then items (rest.getD 0 .non)
    else if w = "room" then (items (rest.getD 0 .non)).map fst
    else if w = "code" then (items (rest.getD 1 .non)).map snd
    else if w = "to" then items (rest.getD 1 .non) ++ [rest.getD 2 .non]
    else if w = "not" then items (rest.getD 1 .non)
    else []
def numD : D → Int
  | .int i => i
  | _ => 0
def bnn (w : Str) (rest : List D) : Int :=
  if w = "some" ∨ w = "rec" then 1 else if w = "not" ∨ w = "to" ∨ w = "code" then numD (rest.getD 0 .non) else 0
def isK (ws : List Str) (f : Int) : Nat → Int → D → Bool
  | 0, _, _ => false
  | n + 1, u, .tup (.str w :: rest) => (decide (w ∈ ws) || decide (w = "free") || decide (w = "var")) && form w rest &&
      (if w = "free" then decide (numD (rest.getD 0 .non) < f) else if w = "var" then decide (numD (rest.getD 0 .non) < u)
       else (inn w rest).all (isK ws f n (u + bnn w rest)))
  | _ + 1, _, _ => false
def PN (n : Nat) (d : D) : Prop := pl d = true ∧ d.dep ≤ n
theorem PN.p64 {n : Nat} {d : D} (h : PN n d) (hn : n ≤ 64) : P64 d := ⟨h.1, Nat.le_trans h.2 hn⟩
theorem PN.sub {n : Nat} {xs : List D} (h : PN (n + 1) (.tup xs)) {x : D} (hx : x ∈ xs) : PN n x := by
  have h1 := h.1
  have h2 : D.deps xs + 1 ≤ n + 1 := h.2
  simp only [pl, Bool.and_eq_true] at h1
  have := deps_le.mp (Nat.le_refl (D.deps xs)) x hx
  exact ⟨pls_iff.mp h1.2 x hx, by omega⟩
theorem PN.mono {n m : Nat} {d : D} (h : PN n d) (hm : n ≤ m) : PN m d := ⟨h.1, Nat.le_trans h.2 hm⟩
/-- one deeper, of any tuple -/
theorem PN.dn {n : Nat} {xs : List D} (h : PN n (.tup xs)) {x : D} (hx : x ∈ xs) : PN n x ∧ PN (n - 1) x := by
  cases n with
  | zero => have := h.2; simp [D.dep] at this
  | succ n => exact ⟨(h.sub hx).mono (Nat.le_succ n), h.sub hx⟩
theorem one1_eq {p : D → Bool} {r : List D} (h : one1 p r = true) : ∃ x, r = [x] ∧ p x = true := by
  unfold one1 at h
  split at h
  · exact ⟨_, rfl, h⟩
  · cases h
theorem two2_eq {p : D → D → Bool} {r : List D} (h : two2 p r = true) : ∃ x y, r = [x, y] ∧ p x y = true := by
  unfold two2 at h
  split at h
  · exact ⟨_, _, rfl, h⟩
  · cases h
theorem three3_eq {p : D → D → D → Bool} {r : List D} (h : three3 p r = true) : ∃ x y z, r = [x, y, z] ∧ p x y z = true := by
  unfold three3 at h
  split at h
  · exact ⟨_, _, _, rfl, h⟩
  · cases h
theorem isHds_eq {x : D} (h : isHds x = true) : ∃ xs, x = .tup xs ∧ xs.all isHd = true := by
  cases x <;> first | exact ⟨_, rfl, h⟩ | cases h
theorem isPrs_eq {x : D} (h : isPrs x = true) : ∃ xs, x = .tup xs ∧ xs.all isPr = true := by
  cases x <;> first | exact ⟨_, rfl, h⟩ | cases h
theorem isPr_eq {x : D} (h : isPr x = true) : ∃ a b, x = .tup [a, b] := by
  unfold isPr at h
  split at h
  · exact ⟨_, _, rfl⟩
  · cases h
theorem inB_eq {x : D} (h : inB x = true) : ∃ n, x = .int n ∧ 0 ≤ n ∧ n ≤ 10000 := by
  cases x <;> first | exact ⟨_, rfl, by simpa [inB, bnd] using h⟩ | cases h
theorem isNt_eq {x : D} (h : isNt x = true) : ∃ n, x = .int n ∧ 0 ≤ n := by
  cases x <;> first | exact ⟨_, rfl, by simpa [isNt] using h⟩ | cases h
/-- what has the form -/
inductive Fm : Str → List D → Prop
  | int : Fm "int" []
  | free (n : Int) : 0 ≤ n → Fm "free" [.int n]
  | var (n : Int) : 0 ≤ n → Fm "var" [.int n]
  | cell (x : D) : isHd x = true → Fm "cell" [x]
  | some (x : D) : isHd x = true → Fm "some" [x]
  | rec_ (x : D) : isHd x = true → hdV x = false → Fm "rec" [x]
  | row (xs : List D) : xs.all isHd = true → Fm "row" [.tup xs]
  | one (xs : List D) : xs.all isHd = true → xs.isEmpty = false → Fm "one" [.tup xs]
  | room (xs : List D) : xs.all isPr = true → (xs.all fun p => isBl (snd p)) = true → Fm "room" [.tup xs]
  | not (n : Int) (xs : List D) : 0 ≤ n → n ≤ 10000 → xs.all isHd = true → Fm "not" [.int n, .tup xs]
  | to (n : Int) (xs : List D) (l : D) : 0 ≤ n → n ≤ 10000 → xs.all isHd = true → isHd l = true → Fm "to" [.int n, .tup xs, l]
  | code (n : Int) (xs : List D) : 0 ≤ n → n ≤ 10000 → xs.all isPr = true → rising (xs.map fst) = true → Fm "code" [.int n, .tup xs]
theorem form_fm {w : Str} {rest : List D} (h : form w rest = true) : Fm w rest := by
  unfold form at h
  split at h
  · rename_i e; subst e
    cases rest with
    | nil => exact .int
    | cons _ _ => cases h
  split at h
  · rename_i e
    obtain ⟨x, rfl, hx⟩ := one1_eq h
    obtain ⟨n, rfl, hn⟩ := isNt_eq hx
    rcases e with rfl | rfl
    · exact .free n hn
    · exact .var n hn
  split at h
  · rename_i e
    obtain ⟨x, rfl, hx⟩ := one1_eq h
    simp only [Bool.and_eq_true, Bool.or_eq_true] at hx
    rcases e with rfl | rfl | rfl
    · exact .cell x hx.1
    · exact .some x hx.1
    · exact .rec_ x hx.1 (by simpa using hx.2)
  split at h
  · rename_i e
    obtain ⟨x, rfl, hx⟩ := one1_eq h
    simp only [Bool.and_eq_true, Bool.or_eq_true] at hx
    obtain ⟨xs, rfl, ha⟩ := isHds_eq hx.1
    rcases e with rfl | rfl
    · exact .row xs ha
    · exact .one xs ha (by simpa [items] using hx.2)
  split at h
  · rename_i e; subst e
    obtain ⟨x, rfl, hx⟩ := one1_eq h
    simp only [Bool.and_eq_true] at hx
    obtain ⟨xs, rfl, ha⟩ := isPrs_eq hx.1
    exact .room xs ha hx.2
  split at h
  · rename_i e; subst e
    obtain ⟨x, y, rfl, hx⟩ := two2_eq h
    simp only [Bool.and_eq_true] at hx
    obtain ⟨n, rfl, h0, h1⟩ := inB_eq hx.1
    obtain ⟨xs, rfl, ha⟩ := isHds_eq hx.2
    exact .not n xs h0 h1 ha
  split at h
  · rename_i e; subst e
    obtain ⟨x, y, z, rfl, hx⟩ := three3_eq h
    simp only [Bool.and_eq_true] at hx
    obtain ⟨n, rfl, h0, h1⟩ := inB_eq hx.1
    obtain ⟨xs, rfl, ha⟩ := isHds_eq hx.2.1
    exact .to n xs z h0 h1 ha hx.2.2
  split at h
  · rename_i e; subst e
    obtain ⟨x, y, rfl, hx⟩ := two2_eq h
    simp only [Bool.and_eq_true] at hx
    obtain ⟨n, rfl, h0, h1⟩ := inB_eq hx.1
    obtain ⟨xs, rfl, ha⟩ := isPrs_eq hx.2.1
    exact .code n xs h0 h1 ha hx.2.2
  · cases h
/-- the kinds within are less deep -/
theorem inn_sub {n : Nat} {w : Str} {rest : List D} (f : Fm w rest) (h : PN (n + 1) (.tup (.str w :: rest))) {x : D} (hx : x ∈ inn w rest) : PN n x := by
  have hr : ∀ y ∈ rest, PN n y := fun y hy => h.sub (List.mem_cons_of_mem _ hy)
  have tp : ∀ {xs : List D}, D.tup xs ∈ rest → ∀ y ∈ xs, PN n y := fun hm y hy => ((hr _ hm).dn hy).1
  have pr : ∀ {xs : List D}, D.tup xs ∈ rest → xs.all isPr = true → ∀ y ∈ xs, PN n (fst y) ∧ PN n (snd y) := fun {xs} hm ha y hy => by
    obtain ⟨a, b, rfl⟩ := isPr_eq (List.all_eq_true.mp ha y hy)
    have q := tp hm _ hy
    exact ⟨(q.dn (x := a) (by simp)).1, (q.dn (x := b) (by simp)).1⟩
  cases f with
  | int => simp [inn] at hx
  | free m _ => simp [inn] at hx
  | var m _ => simp [inn] at hx
  | cell y _ => simp [inn] at hx; subst hx; exact hr _ (by simp)
  | some y _ => simp [inn] at hx; subst hx; exact hr _ (by simp)
  | rec_ y _ _ => simp [inn] at hx; subst hx; exact hr _ (by simp)
  | row xs _ => simp [inn, items] at hx; exact tp (by simp) x hx
  | one xs _ _ => simp [inn, items] at hx; exact tp (by simp) x hx
  | room xs ha _ =>
    simp [inn, items] at hx
    obtain ⟨y, hy, rfl⟩ := hx
    exact (pr (by simp) ha y hy).1
  | not m xs _ _ _ => simp [inn, items] at hx; exact tp (by simp) x hx
  | to m xs l _ _ _ _ =>
    simp [inn, items] at hx
    rcases hx with hx | rfl
    · exact tp (by simp) x hx
    · exact hr _ (by simp)
  | code m xs _ _ ha _ =>
    simp [inn, items] at hx
    obtain ⟨y, hy, rfl⟩ := hx
    exact (pr (by simp) ha y hy).2
end Kn
end

section
/-! KdW: plain data of bounded depth, width and text. No program in sight. -/
set_option maxRecDepth 100000
namespace Kn
open PySem PV
mutual
/-- how long its text is at most -/
def wt : D → Nat
  | .non => 4
  | .bl _ => 5
  | .int i => (Str.ofString (toString i)).length
  | .str x => (reprText x).length
  | .tup xs => wts xs + 3
  | .lst xs => wts xs + 3
  | _ => 0
def wts : List D → Nat
  | [] => 0
  | x :: xs => wt x + 2 + wts xs
end
mutual
theorem shown_wt : ∀ d : D, d.lay = true → d.py.shown.length ≤ wt d
  | .non, _ => by simp only [D.py, PyData.shown, wt]; decide
  | .bl b, _ => by cases b <;> (simp only [D.py, PyData.shown, wt]; decide)
  | .int i, _ => by simp only [D.py, PyData.shown, wt]; exact Nat.le_refl _
  | .str x, _ => by simp only [D.py, PyData.shown, wt]; exact Nat.le_refl _
  | .tup xs, h => by
    have := showns_wt xs h
    have t := tupleText_len_le (PyData.shownAll (D.pys xs))
    simp only [D.py, PyData.shown, wt]; omega
  | .lst xs, h => by
    have := showns_wt xs h
    have t := listText_len_le (PyData.shownAll (D.pys xs))
    simp only [D.py, PyData.shown, wt]; omega
  | .ref _, h => by cases h
  | .fz _, h => by cases h
  | .ftup _, h => by cases h
theorem showns_wt : ∀ xs : List D, D.lays xs = true → ((PyData.shownAll (D.pys xs)).map (·.length)).sum + 2 * (PyData.shownAll (D.pys xs)).length ≤ wts xs
  | [], _ => by simp [D.pys, PyData.shownAll, wts]
  | x :: xs, h => by
    simp only [D.lays, Bool.and_eq_true] at h
    have a := shown_wt x h.1
    have b := showns_wt xs h.2
    simp only [D.pys, PyData.shownAll, wts, List.map_cons, List.sum_cons, List.length_cons]; omega
end
mutual
/-- no tuple, no list in it is longer -/
def sh (n : Nat) : D → Bool
  | .tup xs => decide (xs.length ≤ n) && shs n xs
  | .lst xs => decide (xs.length ≤ n) && shs n xs
  | _ => true
def shs (n : Nat) : List D → Bool
  | [] => true
  | x :: xs => sh n x && shs n xs
end
mutual
/-- what stands third in a triple is short -/
def cs : D → Bool
  | .tup xs => css xs && (match xs with | [_, _, .tup ys] => decide (ys.length < 64) | _ => true)
  | .lst xs => css xs
  | _ => true
def css : List D → Bool
  | [] => true
  | x :: xs => cs x && css xs
end
theorem css_iff : ∀ {xs : List D}, css xs = true ↔ ∀ x ∈ xs, cs x = true
  | [] => by simp [css]
  | x :: xs => by simp [css, css_iff (xs := xs)]
theorem shs_iff {n : Nat} : ∀ {xs : List D}, shs n xs = true ↔ ∀ x ∈ xs, sh n x = true
  | [] => by simp [shs]
  | x :: xs => by simp [shs, shs_iff (xs := xs)]
mutual
theorem sh_cs {n : Nat} (hn : n < 64) : ∀ d : D, sh n d = true → cs d = true
  | .tup xs, h => by
    simp only [sh, Bool.and_eq_true, decide_eq_true_eq] at h
    simp only [cs, Bool.and_eq_true]
    refine ⟨shs_css hn xs h.2, ?_⟩
    split
    · rename_i ys
      have := shs_iff.mp h.2 (.tup ys) (by simp)
      simp only [sh, Bool.and_eq_true, decide_eq_true_eq] at this
      (exact decide_eq_true (by omega))
    · rfl
  | .lst xs, h => by
    simp only [sh, Bool.and_eq_true, decide_eq_true_eq] at h
    exact shs_css hn xs h.2
  | .non, _ => rfl
  | .bl _, _ => rfl
  | .int _, _ => rfl
  | .str _, _ => rfl
  | .ref _, _ => rfl
  | .fz _, _ => rfl
  | .ftup _, _ => rfl
  | .exc _, _ => rfl
  | .exf _ _ _, _ => rfl
theorem shs_css {n : Nat} (hn : n < 64) : ∀ xs : List D, shs n xs = true → css xs = true
  | [], _ => rfl
  | x :: xs, h => by
    simp only [shs, Bool.and_eq_true] at h
    simp only [css, Bool.and_eq_true]
    exact ⟨sh_cs hn x h.1, shs_css hn xs h.2⟩
end
mutual
theorem sh_mono {n m : Nat} (h : n ≤ m) : ∀ d : D, sh n d = true → sh m d = true
  | .tup xs, e => by
    simp only [sh, Bool.and_eq_true, decide_eq_true_eq] at e ⊢
    exact ⟨Nat.le_trans e.1 h, shs_mono h xs e.2⟩
  | .lst xs, e => by
    simp only [sh, Bool.and_eq_true, decide_eq_true_eq] at e ⊢
    exact ⟨Nat.le_trans e.1 h, shs_mono h xs e.2⟩
  | .non, _ => rfl
  | .bl _, _ => rfl
  | .int _, _ => rfl
  | .str _, _ => rfl
  | .ref _, _ => rfl
  | .fz _, _ => rfl
  | .ftup _, _ => rfl
  | .exc _, _ => rfl
  | .exf _ _ _, _ => rfl
theorem shs_mono {n m : Nat} (h : n ≤ m) : ∀ xs : List D, shs n xs = true → shs m xs = true
  | [], _ => rfl
  | x :: xs, e => by
    simp only [shs, Bool.and_eq_true] at e ⊢
    exact ⟨sh_mono h x e.1, shs_mono h xs e.2⟩
end
mutual
/-- whole: plain, ints that are shown -/
def wl : D → Bool
  | .non => true
  | .bl _ => true
  | .int j => decide (j.natAbs.log2 < 1920)
  | .str x => PyData.strOk x
  | .tup xs => wls xs
  | .lst xs => wls xs
  | _ => false
def wls : List D → Bool
  | [] => true
  | x :: xs => wl x && wls xs
end
theorem wls_iff : ∀ {xs : List D}, wls xs = true ↔ ∀ x ∈ xs, wl x = true
  | [] => by simp [wls]
  | x :: xs => by simp [wls, wls_iff (xs := xs)]
mutual
theorem wl_show : ∀ d : D, wl d = true → d.py.showable = true
  | .non, _ => rfl
  | .bl _, _ => rfl
  | .int _, h => by simp only [D.py, PyData.showable]; exact h
  | .str _, _ => rfl
  | .tup xs, h => by simp only [D.py, PyData.showable]; exact wls_show xs h
  | .lst xs, h => by simp only [D.py, PyData.showable]; exact wls_show xs h
  | .ref _, h => by cases h
  | .fz _, h => by cases h
  | .ftup _, h => by cases h
theorem wls_show : ∀ xs : List D, wls xs = true → PyData.showableAll (D.pys xs) = true
  | [], _ => rfl
  | x :: xs, h => by
    simp only [wls, Bool.and_eq_true] at h
    simp only [D.pys, PyData.showableAll, Bool.and_eq_true]
    exact ⟨wl_show x h.1, wls_show xs h.2⟩
end
mutual
theorem wl_pl {n : Nat} (hn : n ≤ 1000000) : ∀ d : D, wl d = true → sh n d = true → pl d = true
  | .non, _, _ => rfl
  | .bl _, _, _ => rfl
  | .int _, _, _ => rfl
  | .str _, h, _ => h
  | .tup xs, h, k => by
    simp only [sh, Bool.and_eq_true, decide_eq_true_eq] at k
    simp only [pl, Bool.and_eq_true, decide_eq_true_eq]
    exact ⟨Nat.le_trans k.1 hn, wls_pl hn xs h k.2⟩
  | .lst xs, h, k => by
    simp only [sh, Bool.and_eq_true, decide_eq_true_eq] at k
    simp only [pl, Bool.and_eq_true, decide_eq_true_eq]
    exact ⟨Nat.le_trans k.1 hn, wls_pl hn xs h k.2⟩
  | .ref _, h, _ => by cases h
  | .fz _, h, _ => by cases h
  | .ftup _, h, _ => by cases h
theorem wls_pl {n : Nat} (hn : n ≤ 1000000) : ∀ xs : List D, wls xs = true → shs n xs = true → pls xs = true
  | [], _, _ => rfl
  | x :: xs, h, k => by
    simp only [wls, Bool.and_eq_true] at h
    simp only [shs, Bool.and_eq_true] at k
    simp only [pls, Bool.and_eq_true]
    exact ⟨wl_pl hn x h.1 k.1, wls_pl hn xs h.2 k.2⟩
end
/-- data of bounded width, depth and text -/
structure Vd (n dp B : Nat) (d : D) : Prop where
  wl : wl d = true
  sh : sh n d = true
  dep : d.dep ≤ dp
  wt : wt d ≤ B
/-- .. a row of them, S the sum -/
structure Vs (n dp S : Nat) (xs : List D) : Prop where
  wl : wls xs = true
  sh : shs n xs = true
  dep : D.deps xs ≤ dp
  wt : wts xs ≤ S
section
variable {n m dp dp' B B' S S' : Nat} {d x : D} {xs ys : List D}
theorem Vd.mono (v : Vd n dp B d) (h1 : n ≤ m) (h2 : dp ≤ dp') (h3 : B ≤ B') : Vd m dp' B' d := ⟨v.wl, sh_mono h1 d v.sh, Nat.le_trans v.dep h2, Nat.le_trans v.wt h3⟩
theorem Vs.nil : Vs n dp S [] := ⟨rfl, rfl, Nat.zero_le _, Nat.zero_le _⟩
theorem Vs.cons (v : Vd n dp B x) (vs : Vs n dp S xs) : Vs n dp (B + 2 + S) (x :: xs) :=
  ⟨by simp only [wls, Bool.and_eq_true]; exact ⟨v.wl, vs.wl⟩, by simp only [shs, Bool.and_eq_true]; exact ⟨v.sh, vs.sh⟩, by simp only [D.deps]; exact Nat.max_le.mpr ⟨v.dep, vs.dep⟩, by have := v.wt; have := vs.wt; simp only [wts]; omega⟩
theorem Vs.mono (v : Vs n dp S xs) (h3 : S ≤ S') (h2 : dp ≤ dp' := by omega) : Vs n dp' S' xs := ⟨v.wl, v.sh, Nat.le_trans v.dep h2, Nat.le_trans v.wt h3⟩
theorem Vd.tup (v : Vs n dp S xs) (h : xs.length ≤ n) : Vd n (dp + 1) (S + 3) (.tup xs) :=
  ⟨v.wl, by simp only [Kn.sh, Bool.and_eq_true, decide_eq_true_eq]; exact ⟨h, v.sh⟩, Nat.succ_le_succ v.dep, by have := v.wt; simp only [Kn.wt]; omega⟩
theorem Vd.lst (v : Vs n dp S xs) (h : xs.length ≤ n) : Vd n (dp + 1) (S + 3) (.lst xs) :=
  ⟨v.wl, by simp only [Kn.sh, Bool.and_eq_true, decide_eq_true_eq]; exact ⟨h, v.sh⟩, Nat.succ_le_succ v.dep, by have := v.wt; simp only [Kn.wt]; omega⟩
theorem Vs.all : ∀ {xs : List D}, (∀ x ∈ xs, Vd n dp B x) → Vs n dp (xs.length * (B + 2)) xs
  | [], _ => .nil
  | x :: xs, h => by
    have a := (Vs.all fun y hy => h y (List.mem_cons_of_mem _ hy)).cons (h x List.mem_cons_self)
    rw [List.length_cons, Nat.succ_mul, Nat.add_comm (xs.length * (B + 2))]; exact a
theorem Vd.str {w : Str} (h : PyData.strOk w = true) (hl : (reprText w).length ≤ B) : Vd n dp B (.str w) := ⟨h, rfl, Nat.zero_le _, hl⟩
theorem Vd.bl {b : Bool} (h : 5 ≤ B) : Vd n dp B (.bl b) := ⟨rfl, rfl, Nat.zero_le _, h⟩
theorem Vd.non (h : 4 ≤ B) : Vd n dp B .non := ⟨rfl, rfl, Nat.zero_le _, h⟩
theorem Vd.int {i : Int} (h0 : 0 ≤ i) (h1 : i < 100000000) (h : 8 ≤ B) : Vd n dp B (.int i) := by
  refine ⟨?_, rfl, Nat.zero_le _, ?_⟩
  · refine decide_eq_true ?_
    have a : i.natAbs < 2 ^ 27 := by omega
    by_cases z : i.natAbs = 0
    · rw [z]; decide
    · exact Nat.lt_of_lt_of_le ((Nat.log2_lt z).mpr a) (by decide)
  · have := PyProof.Rows.toString_length_le (k := 8) h0 (by decide) (by omega)
    simp only [Kn.wt]; omega
theorem Vd.inv (v : Vd n dp B (.tup xs)) : ∃ S, Vs n (dp - 1) S xs ∧ S + 3 ≤ B ∧ xs.length ≤ n ∧ 1 ≤ dp := by
  obtain ⟨a, b, c, e⟩ := v
  simp only [Kn.sh, Bool.and_eq_true, decide_eq_true_eq] at b
  have c : D.deps xs + 1 ≤ dp := c
  simp only [Kn.wt] at e
  exact ⟨wts xs, ⟨a, b.2, by omega, Nat.le_refl _⟩, e, b.1, by omega⟩
theorem Vs.app (v : Vs n dp S xs) (u : Vs n dp S' ys) : Vs n dp (S + S') (xs ++ ys) := by
  induction xs generalizing S with
  | nil => exact u.mono (Nat.le_add_left _ _)
  | cons x xs ih =>
    have hx : Vd n dp (Kn.wt x) x := ⟨by have := v.wl; simp only [wls, Bool.and_eq_true] at this; exact this.1, by have := v.sh; simp only [shs, Bool.and_eq_true] at this; exact this.1, by have := v.dep; simp only [D.deps] at this; omega, Nat.le_refl _⟩
    have hxs : Vs n dp (wts xs) xs := ⟨by have := v.wl; simp only [wls, Bool.and_eq_true] at this; exact this.2, by have := v.sh; simp only [shs, Bool.and_eq_true] at this; exact this.2, by have := v.dep; simp only [D.deps] at this; omega, Nat.le_refl _⟩
    have := v.wt
    simp only [wts] at this
    exact (Vs.cons hx (ih hxs)).mono (by omega)
theorem Vs.get (v : Vs n dp S xs) (hx : x ∈ xs) : Vd n dp S x := by
  induction xs generalizing S with
  | nil => cases hx
  | cons y xs ih =>
    have h1 := v.wl; have h2 := v.sh; have h3 := v.dep; have h4 := v.wt
    simp only [wls, Bool.and_eq_true] at h1
    simp only [shs, Bool.and_eq_true] at h2
    simp only [D.deps] at h3
    simp only [wts] at h4
    (rcases List.mem_cons.mp hx with rfl | hx)
    · exact ⟨h1.1, h2.1, by omega, by omega⟩
    · exact (ih (S := wts xs) ⟨h1.2, h2.2, by omega, Nat.le_refl _⟩ hx).mono (Nat.le_refl _) (Nat.le_refl _) (by omega)
theorem Vs.take (v : Vs n dp S xs) (k : Nat) : Vs n dp S (xs.take k) ∧ Vs n dp S (xs.drop k) := by
  induction xs generalizing S k with
  | nil => simp; exact .nil
  | cons y xs ih =>
    have h1 := v.wl; have h2 := v.sh; have h3 := v.dep; have h4 := v.wt
    simp only [wls, Bool.and_eq_true] at h1
    simp only [shs, Bool.and_eq_true] at h2
    simp only [D.deps] at h3
    simp only [wts] at h4
    cases k with
    | zero => exact ⟨.nil, v⟩
    | succ k =>
      obtain ⟨a, b⟩ := ih (S := wts xs) ⟨h1.2, h2.2, by omega, Nat.le_refl _⟩ k
      have hy : Vd n dp (Kn.wt y) y := ⟨h1.1, h2.1, by omega, Nat.le_refl _⟩
      exact ⟨(Vs.cons hy a).mono (by omega), b.mono (by omega)⟩
theorem Vd.pn (v : Vd n dp B d) (hn : n ≤ 1000000) : PN dp d := ⟨wl_pl hn d v.wl v.sh, v.dep⟩
end
/-- what is asked of a value -/
structure Val (d : D) : Prop where
  pn : PN 64 d
  cs : cs d = true
  wl : wl d = true
  wt : wt d ≤ 16777216
theorem Vd.val {n dp B : Nat} {d : D} (v : Vd n dp B d) (hn : n < 64) (hd : dp ≤ 64) (hB : B ≤ 16777216) : Val d :=
  ⟨(v.pn (by omega)).mono hd, sh_cs hn d v.sh, v.wl, Nat.le_trans v.wt hB⟩
theorem res_pl {h : Hh} {d : D} (p : pl d = true) : d.res h = d := by
  cases d <;> first | rfl | cases p
theorem Val.repr {h : Hh} {d : D} (v : Val d) : opBf .repr h [d] = some (.str d.py.shown) := by
  show reprD (d.res h) = _
  rw [res_pl v.pn.1]
  unfold reprD
  have hl := pl_lay d v.pn.1
  have hs : d.shp = true := (v.pn.p64 (Nat.le_refl _)).shp
  rw [hs, wl_show d v.wl, decide_eq_true (Nat.le_trans (shown_wt d hl) v.wt)]
  rfl
end Kn
end

section
set_option maxRecDepth 100000
namespace K51
open PySem PySem.Spec PyProof.Rows L2 PV
abbrev b_code_register : Ss := .cons (.whl (.cmp .inn (.idx (.var 0) (.con (.int 0))) (.tup (.cons (.con (.str "at")) (.cons (.con (.str "hide")) (.cons (.con (.str "fold")) (.cons (.con (.str "unfold")) .nil)))))) (.cons (.asg 0 (.ite (.cmp .inn (.idx (.var 0) (.con (.int 0))) (.tup (.cons (.con (.str "hide")) (.cons (.con (.str "fold")) .nil)))) (.idx (.var 0) (.con (.int 2))) (.idx (.var 0) (.con (.int 1))))) .nil)) (.cons (.ret (.ite (.cmp .eq (.idx (.var 0) (.con (.int 0))) (.con (.str "register"))) (.idx (.var 0) (.con (.int 1))) (.con (.non)))) .nil)
abbrev f_code_register : Fn := { name := "code_register", N := ["word"], P := ["word"], frz := false, body := b_code_register }
abbrev b_with_register : Ss := .cons (.ite (.cmp .eq (.idx (.var 0) (.con (.int 0))) (.con (.str "register"))) (.cons (.ret (.tup (.cons (.con (.str "register")) (.cons (.var 1) .nil)))) .nil) (.nil)) (.cons (.ite (.cmp .inn (.idx (.var 0) (.con (.int 0))) (.tup (.cons (.con (.str "hide")) (.cons (.con (.str "fold")) .nil)))) (.cons (.ret (.bin .add (.bin .add (.slc (.var 0) (.miss) (.con (.int 2))) (.tup (.cons (.call 1 (.cons (.idx (.var 0) (.con (.int 2))) (.cons (.var 1) .nil))) .nil))) (.slc (.var 0) (.con (.int 3)) (.miss)))) .nil) (.nil)) (.cons (.ret (.bin .add (.tup (.cons (.idx (.var 0) (.con (.int 0))) (.cons (.call 1 (.cons (.idx (.var 0) (.con (.int 1))) (.cons (.var 1) .nil))) .nil))) (.slc (.var 0) (.con (.int 2)) (.miss)))) .nil))
abbrev f_with_register : Fn := { name := "with_register", N := ["word", "spot"], P := ["word", "spot"], frz := false, body := b_with_register }
abbrev i_moved_at_once_0 : I := .ev (.var 0)
abbrev k_moved_at_once_0 : E := .var 4
abbrev x_moved_at_once_0 : E := .var 5
abbrev c_moved_at_once_0 : E := .cmp .ne (.var 5) (.tup (.cons (.con (.str "register")) (.cons (.var 4) .nil)))
abbrev e_moved_at_once_0 : E := .dcl (.tu [4, 5]) i_moved_at_once_0 c_moved_at_once_0 k_moved_at_once_0 x_moved_at_once_0
abbrev x_moved_at_once_1 : E := .call 0 (.cons (.var 5) .nil)
abbrev e_moved_at_once_1 : E := .lcv 5 3 x_moved_at_once_1
abbrev i_moved_at_once_2 : I := .ev (.bf .sorted (.cons (.var 3) .nil))
abbrev x_moved_at_once_2 : E := .var 4
abbrev c_moved_at_once_2 : E := .cmp .nin (.var 4) (.var 6)
abbrev e_moved_at_once_2 : E := .lc (.v 4) i_moved_at_once_2 c_moved_at_once_2 x_moved_at_once_2
abbrev i_moved_at_once_3 : I := .ev (.bf .sorted (.cons (.var 3) .nil))
abbrev x_moved_at_once_3 : E := .var 4
abbrev c_moved_at_once_3 : E := .cmp .eq (.call 0 (.cons (.idx (.var 3) (.var 4)) .nil)) (.var 4)
abbrev e_moved_at_once_3 : E := .lc (.v 4) i_moved_at_once_3 c_moved_at_once_3 x_moved_at_once_3
abbrev i_moved_at_once_4 : I := .ev (.var 8)
abbrev x_moved_at_once_4 : E := .var 4
abbrev c_moved_at_once_4 : E := .cmp .eq (.mth .count (.var 6) (.cons (.var 4) .nil)) (.con (.int 1))
abbrev e_moved_at_once_4 : E := .lc (.v 4) i_moved_at_once_4 c_moved_at_once_4 x_moved_at_once_4
abbrev b_moved_at_once : Ss := .cons (.asg 2 (.new (.lst (.nil)))) (.cons (.asg 3 (e_moved_at_once_0)) (.cons (.whl (.var 3) (.cons (.asg 6 (e_moved_at_once_1)) (.cons (.asgLc 7 (e_moved_at_once_2)) (.cons (.asgLc 8 (e_moved_at_once_3)) (.cons (.ite (.and (.cmp .eq (.var 7) (.lst (.nil))) (.cons (.cmp .ne (.var 8) (.lst (.nil))) .nil)) (.cons (.asgLc 7 (e_moved_at_once_4)) .nil) (.nil)) (.cons (.ite (.cmp .ne (.var 7) (.lst (.nil))) (.cons (.exp (.mth .append (.var 2) (.cons (.tup (.cons (.con (.str "move")) (.cons (.idx (.var 7) (.con (.int 0))) (.cons (.dpop (.var 3) (.idx (.var 7) (.con (.int 0)))) .nil)))) .nil))) (.cons (.cnt) .nil)) (.nil)) (.cons (.asg 9 (.bf .minD (.cons (.var 3) .nil))) (.cons (.exp (.mth .append (.var 2) (.cons (.tup (.cons (.con (.str "move")) (.cons (.var 1) (.cons (.tup (.cons (.con (.str "register")) (.cons (.var 9) .nil))) .nil)))) .nil))) (.cons (.for_ (.v 4) (.ev (.bf .sorted (.cons (.var 3) .nil))) (.cons (.ite (.cmp .eq (.call 0 (.cons (.idx (.var 3) (.var 4)) .nil)) (.var 9)) (.cons (.sto (.var 3) (.var 4) (.call 1 (.cons (.idx (.var 3) (.var 4)) (.cons (.var 1) .nil)))) .nil) (.nil)) .nil)) .nil))))))))) (.cons (.ret (.var 2)) .nil)))
abbrev f_moved_at_once : Fn := { name := "moved_at_once", N := ["pending", "spare", "rows", "left", "spot", "word", "read", "ready", "own", "first"], P := ["pending", "spare"], frz := true, body := b_moved_at_once, kw := [(0, ["spare", "pending"], [1, 0])] }
abbrev b__law_flow : Ss := .cons (.ret (.new (.lst (.cons (.new (.bf .list (.cons (.var 0) .nil))) (.cons (.con (.int 0)) (.cons (.con (.int 11)) (.cons (.con (.int 0)) .nil))))))) .nil
abbrev f__law_flow : Fn := { name := "_law_flow", N := ["script"], P := ["script"], frz := false, body := b__law_flow }
abbrev b__law_draw : Ss := .cons (.ite (.and (.cmp .eq (.idx (.var 0) (.con (.int 1))) (.con (.int 0))) (.cons (.cmp .ne (.idx (.var 0) (.con (.int 0))) (.lst (.nil))) .nil)) (.cons (.asg 2 (.bf .int (.cons (.mth .popAt (.idx (.var 0) (.con (.int 0))) (.cons (.con (.int 0)) .nil)) .nil))) (.cons (.sto (.var 0) (.con (.int 1)) (.bf .max2 (.cons (.con (.int 0)) (.cons (.bin .sub (.bf .abs (.cons (.var 2) .nil)) (.bin .pow (.con (.int 10)) (.con (.int 18)))) .nil)))) (.cons (.sto (.var 0) (.con (.int 2)) (.bin .mod (.bf .int (.cons (.bin .add (.bin .mul (.idx (.var 0) (.con (.int 2))) (.con (.int 1181783497276652981))) (.var 2)) .nil)) (.con (.int 2305843009213693951)))) .nil))) (.nil)) (.cons (.ite (.cmp .gt (.idx (.var 0) (.con (.int 1))) (.con (.int 0))) (.cons (.asg 3 (.bin .fdiv (.idx (.var 0) (.con (.int 1))) (.var 1))) (.cons (.asg 4 (.bin .sub (.idx (.var 0) (.con (.int 1))) (.bin .mul (.var 3) (.var 1)))) (.cons (.sto (.var 0) (.con (.int 1)) (.var 3)) (.cons (.ret (.var 4)) .nil)))) (.nil)) (.cons (.sto (.var 0) (.con (.int 3)) (.bin .add (.idx (.var 0) (.con (.int 3))) (.con (.int 1)))) (.cons (.asg 5 (.idx (.var 0) (.con (.int 3)))) (.cons (.asg 6 (.bin .mod (.bf .int (.cons (.bin .add (.bin .add (.bin .add (.idx (.var 0) (.con (.int 2))) (.bin .mul (.bin .mul (.con (.int 7919)) (.var 5)) (.var 5))) (.bin .mul (.con (.int 15485863)) (.var 5))) (.con (.int 3))) .nil)) (.con (.int 2305843009213693951)))) (.cons (.asg 6 (.bin .fdiv (.bin .mod (.bf .int (.cons (.bin .add (.bin .add (.bin .mul (.var 6) (.var 6)) (.bin .mul (.con (.int 104729)) (.var 5))) (.con (.int 5))) .nil)) (.con (.int 2305843009213693951))) (.con (.int 1021)))) (.cons (.asg 6 (.bin .fdiv (.bin .mod (.bf .int (.cons (.bin .add (.bin .mul (.var 6) (.var 6)) (.bin .mul (.con (.int 611953)) (.var 5))) .nil)) (.con (.int 2305843009213693951))) (.con (.int 4093)))) (.cons (.ret (.bin .mod (.bf .int (.cons (.var 6) .nil)) (.var 1))) .nil)))))))
abbrev f__law_draw : Fn := { name := "_law_draw", N := ["flow", "many", "cell", "rest", "found", "turn", "mixed"], P := ["flow", "many"], frz := false, body := b__law_draw }
abbrev i__law_same_0 : I := .rng (.bf .len (.cons (.var 1) .nil))
abbrev x__law_same_0 : E := .var 2
abbrev c__law_same_0 : E := .not (.call 5 (.cons (.idx (.var 0) (.var 2)) (.cons (.idx (.var 1) (.var 2)) .nil)))
abbrev e__law_same_0 : E := .lc (.v 2) i__law_same_0 c__law_same_0 x__law_same_0
abbrev b__law_same : Ss := .cons (.ite (.cmp .is (.var 1) (.con (.non))) (.cons (.ret (.cmp .is (.var 0) (.con (.non)))) .nil) (.nil)) (.cons (.ite (.isi (.var 1) .bl) (.cons (.ret (.and (.isi (.var 0) .bl) (.cons (.cmp .eq (.var 0) (.var 1)) .nil))) .nil) (.nil)) (.cons (.ite (.isi (.var 1) .int) (.cons (.ret (.and (.isi (.var 0) .int) (.cons (.not (.isi (.var 0) .bl)) (.cons (.cmp .eq (.var 0) (.var 1)) .nil)))) .nil) (.nil)) (.cons (.ite (.isi (.var 1) .str) (.cons (.ret (.and (.isi (.var 0) .str) (.cons (.cmp .eq (.var 0) (.var 1)) .nil))) .nil) (.nil)) (.cons (.ite (.or (.cmp .ne (.isi (.var 1) .lst) (.isi (.var 0) .lst)) (.cons (.cmp .ne (.isi (.var 1) .tup) (.isi (.var 0) .tup)) .nil)) (.cons (.ret (.con (.bl false))) .nil) (.nil)) (.cons (.ret (.and (.cmp .eq (.bf .len (.cons (.var 0) .nil)) (.bf .len (.cons (.var 1) .nil))) (.cons (.cmp .eq (e__law_same_0) (.lst (.nil))) .nil))) .nil)))))
abbrev f__law_same : Fn := { name := "_law_same", N := ["found", "due", "k"], P := ["found", "due"], frz := false, body := b__law_same }
abbrev b__law_word : Ss := .cons (.ite (.cmp .eq (.idx (.var 1) (.con (.int 0))) (.con (.str "register"))) (.cons (.ret (.idx (.var 0) (.idx (.var 1) (.con (.int 1))))) .nil) (.nil)) (.cons (.ite (.cmp .inn (.idx (.var 1) (.con (.int 0))) (.tup (.cons (.con (.str "at")) (.cons (.con (.str "unfold")) .nil)))) (.cons (.ret (.call 6 (.cons (.var 0) (.cons (.idx (.var 1) (.con (.int 1))) .nil)))) .nil) (.nil)) (.cons (.ret (.ite (.cmp .inn (.idx (.var 1) (.con (.int 0))) (.tup (.cons (.con (.str "hide")) (.cons (.con (.str "fold")) .nil)))) (.call 6 (.cons (.var 0) (.cons (.idx (.var 1) (.con (.int 2))) .nil))) (.var 1))) .nil))
abbrev f__law_word : Fn := { name := "_law_word", N := ["regs", "word"], P := ["regs", "word"], frz := false, body := b__law_word }
abbrev b__law_wrapped : Ss := .cons (.asg 2 (.tup (.cons (.con (.str "rec")) (.cons (.tup (.cons (.con (.str "cell")) (.cons (.tup (.cons (.con (.str "var")) (.cons (.con (.int 0)) .nil))) .nil))) .nil)))) (.cons (.asg 3 (.new (.lst (.cons (.var 1) (.cons (.var 1) (.cons (.var 1) (.cons (.tup (.cons (.con (.str "fold")) (.cons (.var 2) (.cons (.var 1) .nil)))) (.cons (.tup (.cons (.con (.str "unfold")) (.cons (.var 1) .nil))) (.cons (.tup (.cons (.con (.str "at")) (.cons (.var 1) (.cons (.tup (.cons (.tup (.cons (.con (.str "int")) .nil)) (.cons (.var 2) .nil))) .nil)))) .nil))))))))) (.cons (.exp (.mth .append (.var 3) (.cons (.tup (.cons (.con (.str "hide")) (.cons (.tup (.cons (.con (.str "int")) .nil)) (.cons (.tup (.cons (.con (.str "unfold")) (.cons (.var 1) .nil))) (.cons (.tup (.cons (.con (.str "some")) (.cons (.tup (.cons (.con (.str "var")) (.cons (.con (.int 0)) .nil))) .nil))) .nil))))) .nil))) (.cons (.ret (.idx (.var 3) (.call 4 (.cons (.var 0) (.cons (.con (.int 7)) .nil))))) .nil)))
abbrev f__law_wrapped : Fn := { name := "_law_wrapped", N := ["flow", "word", "kind", "ways"], P := ["flow", "word"], frz := true, body := b__law_wrapped }
abbrev i__law_pending_0 : I := .ev (.var 2)
abbrev x__law_pending_0 : E := .var 8
abbrev c__law_pending_0 : E := .cmp .ne (.var 8) (.var 4)
abbrev e__law_pending_0 : E := .lc (.v 8) i__law_pending_0 c__law_pending_0 x__law_pending_0
abbrev i__law_pending_1 : I := .rng (.bf .len (.cons (.var 1) .nil))
abbrev x__law_pending_1 : E := .tup (.cons (.idx (.var 1) (.var 6)) (.cons (.call 7 (.cons (.var 0) (.cons (.tup (.cons (.con (.str "register")) (.cons (.idx (.var 1) (.bin .sub (.var 6) (.con (.int 1)))) .nil))) .nil))) .nil))
abbrev c__law_pending_1 : E := .miss
abbrev e__law_pending_1 : E := .lc (.v 6) i__law_pending_1 c__law_pending_1 x__law_pending_1
abbrev b__law_pending : Ss := .cons (.unp [1, 2] (.tup (.cons (.new (.lst (.nil))) (.cons (.new (.lrg (.con (.int 30)))) .nil)))) (.cons (.for_ (.v 3) (.rng (.call 4 (.cons (.var 0) (.cons (.idx (.lst (.cons (.con (.int 11)) (.cons (.con (.int 29)) .nil))) (.call 4 (.cons (.var 0) (.cons (.con (.int 2)) .nil)))) .nil)))) (.cons (.exp (.mth .append (.var 1) (.cons (.mth .popAt (.var 2) (.cons (.call 4 (.cons (.var 0) (.cons (.bf .len (.cons (.var 2) .nil)) .nil))) .nil)) .nil))) .nil)) (.cons (.unp [4, 5] (.tup (.cons (.idx (.var 2) (.call 4 (.cons (.var 0) (.cons (.bf .len (.cons (.var 2) .nil)) .nil)))) (.cons (.new (.lst (.nil))) .nil)))) (.cons (.for_ (.v 6) (.rng (.bf .len (.cons (.var 1) .nil))) (.cons (.asg 7 (.lst (.cons (.idx (.var 1) (.bin .sub (.var 6) (.con (.int 1)))) (.cons (.idx (.var 1) (.call 4 (.cons (.var 0) (.cons (.bf .len (.cons (.var 1) .nil)) .nil)))) (.cons (.idx (e__law_pending_0) (.con (.int 0))) (.cons (.idx (.var 1) (.var 6)) .nil)))))) (.cons (.asg 9 (.tup (.cons (.con (.str "register")) (.cons (.idx (.var 7) (.call 4 (.cons (.var 0) (.cons (.con (.int 4)) .nil)))) .nil)))) (.cons (.ite (.cmp .eq (.call 4 (.cons (.var 0) (.cons (.con (.int 6)) .nil))) (.con (.int 0))) (.cons (.asg 9 (.idx (.lst (.cons (.tup (.cons (.con (.str "int")) (.cons (.bin .sub (.con (.int 5)) (.var 6)) .nil))) (.cons (.tup (.cons (.con (.str "label")) (.cons (.var 6) .nil))) .nil))) (.call 4 (.cons (.var 0) (.cons (.con (.int 2)) .nil))))) .nil) (.nil)) (.cons (.exp (.mth .append (.var 5) (.cons (.tup (.cons (.idx (.var 1) (.var 6)) (.cons (.call 7 (.cons (.var 0) (.cons (.var 9) .nil))) .nil))) .nil))) .nil))))) (.cons (.ite (.cmp .eq (.call 4 (.cons (.var 0) (.cons (.con (.int 2)) .nil))) (.con (.int 0))) (.cons (.asgLc 5 (.new (e__law_pending_1))) .nil) (.nil)) (.cons (.ret (.lst (.cons (.bf .tuple (.cons (.srtK (.var 5) "_law_pending.<locals>.<lambda>") .nil)) (.cons (.var 4) .nil)))) .nil)))))
abbrev f__law_pending : Fn := { name := "_law_pending", N := ["flow", "spots", "left", "turn", "spare", "found", "k", "read", "one", "word"], P := ["flow"], frz := true, body := b__law_pending, lq := "_law_pending.<locals>.<lambda>" }
abbrev i_law_0 : I := .rng (.con (.int 30))
abbrev x_law_0 : E := .tup (.cons (.con (.str "int")) (.cons (.bin .add (.con (.int 1000)) (.var 6)) .nil))
abbrev c_law_0 : E := .miss
abbrev e_law_0 : E := .lc (.v 6) i_law_0 c_law_0 x_law_0
abbrev i_law_1 : I := .ev (.var 3)
abbrev x_law_1 : E := .idx (.var 13) (.con (.int 0))
abbrev c_law_1 : E := .miss
abbrev e_law_1 : E := .lc (.v 13) i_law_1 c_law_1 x_law_1
abbrev b_law : Ss := .cons (.asg 1 (.call 3 (.cons (.var 0) .nil))) (.cons (.for_ (.v 2) (.rng (.bin .add (.con (.int 6)) (.bf .min2 (.cons (.con (.int 20)) (.cons (.bf .len (.cons (.var 0) .nil)) .nil))))) (.cons (.unp [3, 4] (.call 8 (.cons (.var 1) .nil))) (.cons (.asgLc 5 (.new (e_law_0))) (.cons (.asg 7 (.new (.bf .list (.cons (.var 5) .nil)))) (.cons (.for_ (.tu [8, 9]) (.ev (.var 3)) (.cons (.sto (.var 7) (.var 8) (.call 6 (.cons (.var 5) (.cons (.var 9) .nil)))) .nil)) (.cons (.asg 10 (.bf .repr (.cons (.var 3) .nil))) (.cons (.asg 11 (.call 2 (.cons (.var 3) (.cons (.var 4) .nil)))) (.cons (.ite (.not (.call 5 (.cons (.callK 2 (.nil) (.cons (.var 4) (.cons (.var 3) .nil)) [1, 0]) (.cons (.var 11) .nil)))) (.cons (.ret (.con (.bl false))) .nil) (.nil)) (.cons (.ite (.or (.not (.isi (.var 11) .lst)) (.cons (.cmp .gt (.bin .mul (.con (.int 2)) (.bf .len (.cons (.var 11) .nil))) (.bin .mul (.con (.int 3)) (.bf .len (.cons (.var 3) .nil)))) (.cons (.cmp .ne (.bf .repr (.cons (.var 3) .nil)) (.var 10)) .nil))) (.cons (.ret (.con (.bl false))) .nil) (.nil)) (.cons (.asg 12 (.bin .add (e_law_1) (.lst (.cons (.var 4) .nil)))) (.cons (.for_ (.v 14) (.ev (.var 11)) (.cons (.ite (.or (.not (.isi (.var 14) .tup)) (.cons (.cmp .ne (.bf .len (.cons (.var 14) .nil)) (.con (.int 3))) (.cons (.cmp .ne (.idx (.var 14) (.con (.int 0))) (.con (.str "move"))) (.cons (.cmp .nin (.idx (.var 14) (.con (.int 1))) (.var 12)) .nil)))) (.cons (.ret (.con (.bl false))) .nil) (.nil)) (.cons (.sto (.var 5) (.idx (.var 14) (.con (.int 1))) (.call 6 (.cons (.var 5) (.cons (.idx (.var 14) (.con (.int 2))) .nil)))) .nil))) (.cons (.sto (.var 5) (.var 4) (.idx (.var 7) (.var 4))) (.cons (.ite (.not (.call 5 (.cons (.var 5) (.cons (.var 7) .nil)))) (.cons (.ret (.con (.bl false))) .nil) (.nil)) .nil))))))))))))) (.cons (.ret (.con (.bl true))) .nil))
abbrev f_law : Fn := { name := "law", N := ["script", "flow", "turn", "pending", "spare", "regs", "k", "due", "spot", "word", "kept", "rows", "goals", "pair", "row"], P := ["script"], frz := false, body := b_law }
def T : List Fn := [f_code_register, f_with_register, f_moved_at_once, f__law_flow, f__law_draw, f__law_same, f__law_word, f__law_wrapped, f__law_pending, f_law]
def bs : List Str := ["abs", "bool", "int", "isinstance", "len", "list", "max", "min", "range", "repr", "sorted", "str", "tuple"]
def gn : List Str := []
def xs : List Str := []
def xm : Xm := ⟨[], [], [], []⟩
def xg : List (Str × Str) := []
def qt : List Nat := []
-- at: [1, 2, 3, 5, 6, 7, 8, 9, 10, 11]

def top (i : Nat) : Stmt := PySem.Challenge.pw_kindscarried_k51_moves_at_once.main.body.getD i (.Pass ⟨0, 0, 0, 0⟩)
def L : Lw := ⟨bs, gn, xs, xm, xg, qt⟩
def chk (f : Fn) (i : Nat) : Bool := mSs (L.cs T f.N (defScope (top i)) false f.lq) f.body (defBody (top i))
def chkq (f : Fn) (i : Nat) : Bool := mSs (L.cs T f.N (defScope (top i)) true) f.body (defBody (top i))
theorem ok_code_register : chk f_code_register 1 = true := by decide +kernel
theorem sc_code_register : FnScope f_code_register.N f_code_register.P (defScope (top 1)) := ⟨rfl, rfl, rfl, by decide +kernel, rfl, by decide +kernel, by decide +kernel⟩
theorem ok_with_register : chk f_with_register 2 = true := by decide +kernel
theorem sc_with_register : FnScope f_with_register.N f_with_register.P (defScope (top 2)) := ⟨rfl, rfl, rfl, by decide +kernel, rfl, by decide +kernel, by decide +kernel⟩
theorem ok_moved_at_once : chk f_moved_at_once 3 = true := by decide +kernel
theorem sc_moved_at_once : FnScope f_moved_at_once.N f_moved_at_once.P (defScope (top 3)) := ⟨rfl, rfl, rfl, by decide +kernel, rfl, by decide +kernel, by decide +kernel⟩
theorem ok__law_flow : chk f__law_flow 5 = true := by decide +kernel
theorem sc__law_flow : FnScope f__law_flow.N f__law_flow.P (defScope (top 5)) := ⟨rfl, rfl, rfl, by decide +kernel, rfl, by decide +kernel, by decide +kernel⟩
theorem ok__law_draw : chk f__law_draw 6 = true := by decide +kernel
theorem sc__law_draw : FnScope f__law_draw.N f__law_draw.P (defScope (top 6)) := ⟨rfl, rfl, rfl, by decide +kernel, rfl, by decide +kernel, by decide +kernel⟩
theorem ok__law_same : chk f__law_same 7 = true := by decide +kernel
theorem sc__law_same : FnScope f__law_same.N f__law_same.P (defScope (top 7)) := ⟨rfl, rfl, rfl, by decide +kernel, rfl, by decide +kernel, by decide +kernel⟩
theorem ok__law_word : chk f__law_word 8 = true := by decide +kernel
theorem sc__law_word : FnScope f__law_word.N f__law_word.P (defScope (top 8)) := ⟨rfl, rfl, rfl, by decide +kernel, rfl, by decide +kernel, by decide +kernel⟩
theorem ok__law_wrapped : chk f__law_wrapped 9 = true := by decide +kernel
theorem sc__law_wrapped : FnScope f__law_wrapped.N f__law_wrapped.P (defScope (top 9)) := ⟨rfl, rfl, rfl, by decide +kernel, rfl, by decide +kernel, by decide +kernel⟩
theorem ok__law_pending : chk f__law_pending 10 = true := by decide +kernel
theorem sc__law_pending : FnScope f__law_pending.N f__law_pending.P (defScope (top 10)) := ⟨rfl, rfl, rfl, by decide +kernel, rfl, by decide +kernel, by decide +kernel⟩
theorem ok_law : chk f_law 11 = true := by decide +kernel
theorem sc_law : FnScope f_law.N f_law.P (defScope (top 11)) := ⟨rfl, rfl, rfl, by decide +kernel, rfl, by decide +kernel, by decide +kernel⟩
abbrev G (P : Nat) : List D := [.int P]
abbrev C (P k f : Nat) (xs : List D) (h : Hh) : R D := callN T (G P) k f xs h
abbrev F (P k : Nat) : Fns := callN T (G P) k
abbrev n_code_register : Nat := 0
theorem C_code_register (P k : Nat) (x0 : D) (h : Hh) : C P (k + 1) n_code_register [x0] h = finR false h.length (evSs (F P k) (G P) b_code_register [some x0] h) := id rfl
abbrev n_with_register : Nat := 1
theorem C_with_register (P k : Nat) (x0 x1 : D) (h : Hh) : C P (k + 1) n_with_register [x0, x1] h = finR false h.length (evSs (F P k) (G P) b_with_register [some x0, some x1] h) := id rfl
abbrev n_moved_at_once : Nat := 2
theorem C_moved_at_once (P k : Nat) (x0 x1 : D) (h : Hh) : C P (k + 1) n_moved_at_once [x0, x1] h = finR true h.length (evSs (F P k) (G P) b_moved_at_once [some x0, some x1, none, none, none, none, none, none, none, none] h) := id rfl
abbrev n__law_flow : Nat := 3
theorem C__law_flow (P k : Nat) (x0 : D) (h : Hh) : C P (k + 1) n__law_flow [x0] h = finR false h.length (evSs (F P k) (G P) b__law_flow [some x0] h) := id rfl
abbrev n__law_draw : Nat := 4
theorem C__law_draw (P k : Nat) (x0 x1 : D) (h : Hh) : C P (k + 1) n__law_draw [x0, x1] h = finR false h.length (evSs (F P k) (G P) b__law_draw [some x0, some x1, none, none, none, none, none] h) := id rfl
abbrev n__law_same : Nat := 5
theorem C__law_same (P k : Nat) (x0 x1 : D) (h : Hh) : C P (k + 1) n__law_same [x0, x1] h = finR false h.length (evSs (F P k) (G P) b__law_same [some x0, some x1, none] h) := id rfl
abbrev n__law_word : Nat := 6
theorem C__law_word (P k : Nat) (x0 x1 : D) (h : Hh) : C P (k + 1) n__law_word [x0, x1] h = finR false h.length (evSs (F P k) (G P) b__law_word [some x0, some x1] h) := id rfl
abbrev n__law_wrapped : Nat := 7
theorem C__law_wrapped (P k : Nat) (x0 x1 : D) (h : Hh) : C P (k + 1) n__law_wrapped [x0, x1] h = finR true h.length (evSs (F P k) (G P) b__law_wrapped [some x0, some x1, none, none] h) := id rfl
abbrev n__law_pending : Nat := 8
theorem C__law_pending (P k : Nat) (x0 : D) (h : Hh) : C P (k + 1) n__law_pending [x0] h = finR true h.length (evSs (F P k) (G P) b__law_pending [some x0, none, none, none, none, none, none, none, none, none] h) := id rfl
abbrev n_law : Nat := 9
theorem C_law (P k : Nat) (x0 : D) (h : Hh) : C P (k + 1) n_law [x0] h = finR false h.length (evSs (F P k) (G P) b_law [some x0, none, none, none, none, none, none, none, none, none, none, none, none, none, none] h) := id rfl
end K51
end

section
set_option maxRecDepth 100000
set_option maxHeartbeats 1600000
/-! K51A: the flow that draws. -/
namespace K51
open PySem PV
abbrev lamQ : Str := "_law_pending.<locals>.<lambda>"
/-- the table, the script's rest, the flow, what stands behind -/
def Fl (P : Nat) (ns : List Int) (a b c : Int) (more : Hh) : Hh := .tb P lamQ :: .lst (ns.map .int) :: .lst [.ref 1, .int a, .int b, .int c] :: more
structure FI (n : Nat) (a b c : Int) : Prop where
  a0 : 0 ≤ a
  b0 : 0 ≤ b
  b1 : b < 2305843009213693951
  c0 : 0 ≤ c
  c1 : c ≤ n
section
variable {P : Nat} {ns : List Int} {a b c z : Int} {more : Hh}
theorem fl_0 : opIdx (Fl P ns a b c more) (.ref 2) (.int 0) = some (.ref 1) := by simp [opIdx, Fl]
theorem fl_1 : opIdx (Fl P ns a b c more) (.ref 2) (.int 1) = some (.int a) := by simp [opIdx, Fl]
theorem fl_2 : opIdx (Fl P ns a b c more) (.ref 2) (.int 2) = some (.int b) := by simp [opIdx, Fl]
theorem fl_3 : opIdx (Fl P ns a b c more) (.ref 2) (.int 3) = some (.int c) := by simp [opIdx, Fl]
theorem st_1 : stoOp (.ref 2) (.int 1) (.int z) (Fl P ns a b c more) = some (Fl P ns z b c more) := rfl
theorem st_2 : stoOp (.ref 2) (.int 2) (.int z) (Fl P ns a b c more) = some (Fl P ns a z c more) := rfl
theorem st_3 : stoOp (.ref 2) (.int 3) (.int z) (Fl P ns a b c more) = some (Fl P ns a b z more) := rfl
theorem ne_1 : opCmp .ne (Fl P ns a b c more) (.ref 1) (.lst []) = some (!ns.isEmpty) := PW.ne_nil rfl
theorem isl_1 : (D.ref 1).isL (Fl P ns a b c more) = true := rfl
theorem pop_1 {n : Int} : mthOp .popAt (.ref 1) [.int 0] (Fl P (n :: ns) a b c more) = .ok (.int n) (Fl P ns a b c more) := by
  show (match mtPopAt ((n :: ns).map .int) [.int 0] with | some p => R.ok p.1 _ | none => R.bad) = _
  have : mtPopAt ((n :: ns).map D.int) [.int 0] = some (.int n, ns.map .int) := by
    show (L2.ixN ((n :: ns).map D.int).length 0).bind _ = _
    have : L2.ixN ((n :: ns).map D.int).length 0 = some 0 := by simp [L2.ixN]
    rw [this]; rfl
  rw [this]; rfl
/-- what is told once no number is left to be dealt -/
abbrev M61 : Int := 2305843009213693951
abbrev mix1 (b t : Int) : Int := (b + 7919 * t * t + 15485863 * t + 3) % M61
abbrev mix2 (b t : Int) : Int := (mix1 b t * mix1 b t + 104729 * t + 5) % M61 / 1021
abbrev mix3 (b t : Int) : Int := (mix2 b t * mix2 b t + 611953 * t) % M61 / 4093
theorem M61_eq : M61 = 2305843009213693951 := rfl
theorem mods (x : Int) : 0 ≤ x % M61 ∧ x % M61 < M61 := ⟨Int.emod_nonneg x (by decide), Int.emod_lt_of_pos x (by decide)⟩
theorem divs {x k : Int} (h : 0 ≤ x ∧ x < M61) (hk : 0 < k) : 0 ≤ x / k ∧ x / k < M61 := ⟨Int.ediv_nonneg h.1 (Int.le_of_lt hk), Int.lt_of_le_of_lt (Int.ediv_le_self k h.1) h.2⟩
theorem mix1_ok (b t : Int) : 0 ≤ mix1 b t ∧ mix1 b t < M61 := mods _
theorem mix2_ok (b t : Int) : 0 ≤ mix2 b t ∧ mix2 b t < M61 := divs (mods _) (by decide)
theorem mix3_ok (b t : Int) : 0 ≤ mix3 b t ∧ mix3 b t < M61 := divs (mods _) (by decide)
theorem sq_ok {x : Int} {h : Hh} (hx : 0 ≤ x ∧ x < M61) : opBin .mul h (.int x) (.int x) = some (.int (x * x)) := PW.bin_mul (PW.mulOk_l hx.1 (by have := hx.2; rw [M61_eq] at this; omega))
theorem mul_c {h : Hh} {k t : Int} (hk : 0 ≤ k ∧ k < 18446744073709551616) : opBin .mul h (.int k) (.int t) = some (.int (k * t)) := PW.bin_mul (PW.mulOk_l hk.1 hk.2)
theorem mul_t {h : Hh} {k t : Int} (hk : 0 ≤ t ∧ t < 18446744073709551616) : opBin .mul h (.int k) (.int t) = some (.int (k * t)) := PW.bin_mul (PW.mulOk_r hk.1 hk.2)
theorem mod_M {h : Hh} (x : Int) : opBin .mod h (.int x) (.int 2305843009213693951) = some (.int (x % M61)) := PW.bin_mod (by decide)
abbrev dr1 : S := .ite (.and (.cmp .eq (.idx (.var 0) (.con (.int 1))) (.con (.int 0))) (.cons (.cmp .ne (.idx (.var 0) (.con (.int 0))) (.lst (.nil))) .nil)) (.cons (.asg 2 (.bf .int (.cons (.mth .popAt (.idx (.var 0) (.con (.int 0))) (.cons (.con (.int 0)) .nil)) .nil))) (.cons (.sto (.var 0) (.con (.int 1)) (.bf .max2 (.cons (.con (.int 0)) (.cons (.bin .sub (.bf .abs (.cons (.var 2) .nil)) (.bin .pow (.con (.int 10)) (.con (.int 18)))) .nil)))) (.cons (.sto (.var 0) (.con (.int 2)) (.bin .mod (.bf .int (.cons (.bin .add (.bin .mul (.idx (.var 0) (.con (.int 2))) (.con (.int 1181783497276652981))) (.var 2)) .nil)) (.con (.int 2305843009213693951)))) .nil))) (.nil)
/-- the mixing, as it stands behind the number's dealing -/
theorem drawM {many : Int} {oc : Option D} (hc : 0 ≤ c ∧ c < 2147483648) (hm : 0 < many) {F : Fns} {ss : Ss} (hs : b__law_draw = .cons dr1 ss) :
    evSs F (G P) ss [some (.ref 2), some (.int many), oc, none, none, none, none] (Fl P ns 0 b c more) = .ret (.int (mix3 b (c + 1) % many)) (Fl P ns 0 b (c + 1) more) := by
  cases hs
  have ht : 0 ≤ c + 1 ∧ c + 1 < 18446744073709551616 := by omega
  have a1 := mix1_ok b (c + 1)
  have a2 := mix2_ok b (c + 1)
  simp -implicitDefEqProofs [fl_0, fl_1, fl_2, fl_3, st_1, st_2, st_3, mul_c, mul_t ht, mod_M, sq_ok a1, sq_ok a2, PW.bin_fdiv, PW.bin_mod hm]
theorem drawA {many : Int} {oc : Option D} (h1 : 0 < a) (hm : 0 < many ∧ many < 1073741824) {F : Fns} {ss : Ss} (hs : b__law_draw = .cons dr1 ss) :
    evSs F (G P) ss [some (.ref 2), some (.int many), oc, none, none, none, none] (Fl P ns a b c more) = .ret (.int (a - a / many * many)) (Fl P ns (a / many) b c more) := by
  cases hs
  simp -implicitDefEqProofs [fl_1, h1, PW.bin_fdiv hm.1 hm.2, PW.bin_mul (PW.mulOk_r (i := a / many) (Int.le_of_lt hm.1) (by omega)), st_1]
theorem draw1s {many : Int} {F : Fns} (h : a ≠ 0 ∨ ns = []) : evS F (G P) dr1 [some (.ref 2), some (.int many), none, none, none, none, none] (Fl P ns a b c more) = .nxt [some (.ref 2), some (.int many), none, none, none, none, none] (Fl P ns a b c more) := by
  by_cases ha : a = 0
  · subst ha
    have hn : ns = [] := h.resolve_left (by simp)
    subst hn
    simp -implicitDefEqProofs [fl_0, fl_1, ne_1]
  · simp -implicitDefEqProofs [fl_0, fl_1, ne_1, ha]
abbrev cellA (n : Int) : Int := if 1000000000000000000 < (if n < 0 then -n else n) then (if n < 0 then -n else n) - 1000000000000000000 else 0
theorem bf_max (x y : Int) {h : Hh} : opBf .max2 h [.int x, .int y] = some (.int (if y > x then y else x)) := id rfl
theorem bf_absI (x : Int) {h : Hh} : opBf .abs h [.int x] = some (.int (if x < 0 then -x else x)) := id rfl
theorem draw1p {many n : Int} {F : Fns} (hb : 0 ≤ b) : evS F (G P) dr1 [some (.ref 2), some (.int many), none, none, none, none, none] (Fl P (n :: ns) 0 b c more) = .nxt [some (.ref 2), some (.int many), some (.int n), none, none, none, none] (Fl P ns (cellA n) ((b * 1181783497276652981 + n) % M61) c more) := by
  simp -implicitDefEqProofs [fl_0, fl_1, fl_2, fl_3, st_1, st_2, st_3, ne_1, isl_1, pop_1, mul_t, mod_M, PW.pow18, bf_max, bf_absI]
theorem draw_ok {k n : Nat} {many : Int} (i : FI n a b c) (hn : n < 2147483647) (hm : 0 < many ∧ many < 1073741824) : ∃ r ns' a' b' c', C P (k + 1) n__law_draw [.ref 2, .int many] (Fl P ns a b c more) = .ok (.int r) (Fl P ns' a' b' c' more) ∧ 0 ≤ r ∧ r < many ∧ FI (n + 1) a' b' c' := by
  have hc : 0 ≤ c ∧ c < 2147483648 := by have := i.c0; have := i.c1; omega
  have fin : ∀ {ns' : List Int} {a' b' : Int} {oc : Option D}, evS (F P k) (G P) dr1 [some (.ref 2), some (.int many), none, none, none, none, none] (Fl P ns a b c more) = .nxt [some (.ref 2), some (.int many), oc, none, none, none, none] (Fl P ns' a' b' c more) → 0 ≤ a' → 0 ≤ b' ∧ b' < M61 →
      ∃ r ns' a' b' c', C P (k + 1) n__law_draw [.ref 2, .int many] (Fl P ns a b c more) = .ok (.int r) (Fl P ns' a' b' c' more) ∧ 0 ≤ r ∧ r < many ∧ FI (n + 1) a' b' c' := by
    intro ns' a' b' oc e ha hb
    have go : ∀ {r : Int} {h' : Hh}, (evSs (F P k) (G P) _ [some (.ref 2), some (.int many), oc, none, none, none, none] (Fl P ns' a' b' c more) = .ret (.int r) h') → C P (k + 1) n__law_draw [.ref 2, .int many] (Fl P ns a b c more) = .ok (.int r) h' := fun {r h'} e2 => by
      rw [C__law_draw, s_cons, e, sthn_nxt, e2, finR_ret]
    by_cases h0 : a' = 0
    · subst h0
      refine ⟨_, ns', 0, b', c + 1, go (drawM hc hm.1 rfl), Int.emod_nonneg _ (by omega), Int.emod_lt_of_pos _ hm.1, ⟨Int.le_refl _, hb.1, hb.2, by omega, by have := i.c1; omega⟩⟩
    · have h1 : 0 < a' := by omega
      have e1 := Int.emod_nonneg a' (show many ≠ 0 by omega)
      have e2 := Int.emod_lt_of_pos a' hm.1
      have e3 := Int.emod_add_mul_ediv a' many
      rw [Int.mul_comm] at e3
      exact ⟨_, ns', a' / many, b', c, go (drawA h1 hm rfl), by omega, by omega, ⟨Int.ediv_nonneg ha (by omega), hb.1, hb.2, i.c0, by have := i.c1; omega⟩⟩
  by_cases h : a ≠ 0 ∨ ns = []
  · exact fin (draw1s h) i.a0 ⟨i.b0, i.b1⟩
  · have h1 : a = 0 := by
      by_cases q : a = 0
      · exact q
      · exact absurd (.inl q) h
    subst h1
    cases ns with
    | nil => exact absurd (.inr rfl) h
    | cons z ns => exact fin (draw1p i.b0) (by unfold cellA; split <;> omega) (mods _)
end
end K51
end

section
set_option maxRecDepth 100000
set_option maxHeartbeats 1600000
/-! K51B: the words that are moved. -/
namespace K51
open PySem PV
inductive Ws where
  | reg (s : Nat) | int (n : Int) | lab (n : Int)
inductive Sh where
  | p | fo | un | at_ | hi
structure Wd where
  sh : Sh
  w : Ws
abbrev kindD : D := .tup [.str "rec", .tup [.str "cell", .tup [.str "var", .int 0]]]
def Ws.d : Ws → D
  | .reg s => .tup [.str "register", .int s]
  | .int n => .tup [.str "int", .int n]
  | .lab n => .tup [.str "label", .int n]
def shD (x : D) : Sh → D
  | .p => x
  | .fo => .tup [.str "fold", kindD, x]
  | .un => .tup [.str "unfold", x]
  | .at_ => .tup [.str "at", x, .tup [.tup [.str "int"], kindD]]
  | .hi => .tup [.str "hide", .tup [.str "int"], .tup [.str "unfold", x], .tup [.str "some", .tup [.str "var", .int 0]]]
def Wd.d (w : Wd) : D := shD w.w.d w.sh
def Wd.cr (w : Wd) : Option Nat := match w.w with
  | .reg s => some s
  | _ => none
def crD : Option Nat → D
  | some s => .int s
  | none => .non
def Wd.put (w : Wd) (s : Nat) : Wd := ⟨w.sh, .reg s⟩
variable {P m : Nat} {h : Hh}
theorem cr_ok (w : Wd) : C P (m + 1) n_code_register [w.d] h = .ok (crD w.cr) h := by
  obtain ⟨sh, w⟩ := w
  cases sh <;> cases w <;> kernel_rfl
theorem wr_ok (sh : Sh) (s t : Nat) : C P (m + 4) n_with_register [Wd.d ⟨sh, .reg s⟩, .int t] h = .ok (Wd.d ⟨sh, .reg t⟩) h := by
  cases sh <;> kernel_rfl
theorem lw_p {s r : Nat} {x : D} (hx : opIdx h (.ref r) (.int s) = some x) : C P (m + 1) n__law_word [.ref r, .tup [.str "register", .int s]] h = .ok x h := by
  simp -implicitDefEqProofs [C__law_word, hx]
theorem lw_un {s r : Nat} {x : D} (hx : opIdx h (.ref r) (.int s) = some x) : C P (m + 2) n__law_word [.ref r, .tup [.str "unfold", .tup [.str "register", .int s]]] h = .ok x h := by
  simp -implicitDefEqProofs [C__law_word, lw_p hx]
theorem lw_reg (sh : Sh) {s r : Nat} {x : D} (hx : opIdx h (.ref r) (.int s) = some x) : C P (m + 4) n__law_word [.ref r, Wd.d ⟨sh, .reg s⟩] h = .ok x h := by
  cases sh
  · exact lw_p hx
  · have e := lw_p (P := P) (m := m + 2) hx
    simp -implicitDefEqProofs [Wd.d, shD, Ws.d, C__law_word, e]
  · exact lw_un (m := m + 2) hx
  · have e := lw_p (P := P) (m := m + 2) hx
    simp -implicitDefEqProofs [Wd.d, shD, Ws.d, C__law_word, e]
  · have e := lw_un (P := P) (m := m + 1) hx
    simp -implicitDefEqProofs [Wd.d, shD, Ws.d, C__law_word, e]
theorem lw_int (sh : Sh) (n : Int) (r : Nat) : C P (m + 4) n__law_word [.ref r, Wd.d ⟨sh, .int n⟩] h = .ok (Ws.int n).d h := by
  cases sh <;> kernel_rfl
theorem lw_lab (sh : Sh) (n : Int) (r : Nat) : C P (m + 4) n__law_word [.ref r, Wd.d ⟨sh, .lab n⟩] h = .ok (Ws.lab n).d h := by
  cases sh <;> kernel_rfl
end K51
end

section
set_option maxRecDepth 100000
set_option maxHeartbeats 1600000
/-! K51C: the law's comparing. -/
namespace K51
open PySem PV
variable {P m : Nat} {h : Hh}
theorem eq_nils : opCmp .eq h (.lst []) (.lst []) = some true := id rfl
theorem same_seq {f g : D} {xs : List D} (hl : xs.length ≤ 1000000) (g0 : g.isNon = false) (go : g.isO h = false) (fo : f.isO h = false) (g1 : opIsi .bl h g = false) (g2 : opIsi .int h g = false) (g3 : opIsi .str h g = false)
    (t1 : opIsi .lst h f = opIsi .lst h g) (t2 : opIsi .tup h f = opIsi .tup h g) (l1 : opBf .len h [f] = some (.int xs.length)) (l2 : opBf .len h [g] = some (.int xs.length))
    (i1 : ∀ k x, xs[k]? = some x → opIdx h f (.int (k : Nat)) = some x) (i2 : ∀ k x, xs[k]? = some x → opIdx h g (.int (k : Nat)) = some x) (hc : ∀ x ∈ xs, C P m n__law_same [x, x] h = .ok (.bl true) h) :
    C P (m + 1) n__law_same [f, g] h = .ok (.bl true) h := by
  have turn : ∀ x ∈ (List.range xs.length).map (fun k : Nat => D.int (k : Int)), lcTurn (.v 2) (evE (F P m) (G P) c__law_same_0) (evE (F P m) (G P) x__law_same_0) [some f, some g, none] x h = .ok none h := by
    intro x hx
    obtain ⟨k, hk, rfl⟩ := List.mem_map.mp hx
    have hk := List.mem_range.mp hk
    have e := List.getElem?_eq_getElem hk
    have a := i1 k _ e
    have b := i2 k _ e
    have q := hc _ (List.getElem_mem hk)
    simp -implicitDefEqProofs [lcTurn, Tg.put, a, b, q]
  have l := PW.lcF (acc := []) (fun _ => none) turn
  have r : rngOk 0 (xs.length : Int) = true := PW.rng_ok ⟨by decide, by decide⟩ ⟨by omega, by omega⟩
  have z : xs.length ≤ 16777216 := by omega
  have fm : (List.map (fun k : Nat => D.int (k : Int)) (List.range xs.length)).filterMap (fun _ => (none : Option D)) = [] := by simp
  rw [List.nil_append, fm] at l
  simp -implicitDefEqProofs [C__law_same, g0, go, fo, g1, g2, g3, t1, t2, l1, l2, r, PW.rngD_nat, l, eq_nils, z]
theorem same_ok {n : Nat} {d : D} (hd : PW.Nc n d) : ∀ {m : Nat} {h : Hh}, C P (m + n + 1) n__law_same [d, d] h = .ok (.bl true) h := by
  induction hd with
  | non => intro m h; kernel_rfl
  | bl b => intro m h; cases b <;> kernel_rfl
  | int i => intro m h; simp -implicitDefEqProofs [C__law_same, opIsi, D.isNon, D.isO, D.isF, D.isTb]
  | str x => intro m h; simp -implicitDefEqProofs [C__law_same, opIsi, D.isNon, D.isO, D.isF, D.isTb]
  | @tup n xs hl _ ih => intro m h; exact same_seq hl rfl rfl rfl rfl rfl rfl rfl rfl rfl rfl (fun k x e => L2.atI_nat e) (fun k x e => L2.atI_nat e) fun x hx => ih x hx
  | @lst n xs hl _ ih => intro m h; exact same_seq hl rfl rfl rfl rfl rfl rfl rfl rfl rfl rfl (fun k x e => L2.atI_nat e) (fun k x e => L2.atI_nat e) fun x hx => ih x hx
theorem same_ref {n r s : Nat} {xs : List D} (hl : xs.length ≤ 1000000) (e1 : h[r]? = some (.lst xs)) (e2 : h[s]? = some (.lst xs)) (hx : ∀ x ∈ xs, PW.Nc n x) : C P (m + n + 2) n__law_same [.ref r, .ref s] h = .ok (.bl true) h := by
  have o : ∀ {r : Nat}, h[r]? = some (.lst xs) → (D.ref r).isO h = false := fun {r} e => by
    show (false || (match h[r]? with | some (.tb _ _) => true | _ => false)) = false
    rw [e]; rfl
  refine same_seq hl rfl (o e2) (o e1) rfl rfl rfl ?_ rfl (PW.len_lref e1) (PW.len_lref e2) (fun k x e => ?_) (fun k x e => ?_) fun x hx2 => same_ok (hx x hx2)
  · show (match h[r]? with | some (.lst _) => true | _ => false) = (match h[s]? with | some (.lst _) => true | _ => false)
    rw [e1, e2]
  · rw [PW.idx_lref e1]; exact L2.atI_nat e
  · rw [PW.idx_lref e2]; exact L2.atI_nat e
end K51
end

section
set_option maxRecDepth 100000
set_option maxHeartbeats 1600000
/-! K51D: moves at once, on plain lists. -/
namespace K51
abbrev Mv := List (Nat × Wd)
abbrev reads (l : Mv) : List (Option Nat) := l.map (·.2.cr)
abbrev free (l : Mv) : List Nat := (l.filter fun p => decide (some p.1 ∉ reads l)).map (·.1)
abbrev owns (l : Mv) : List Nat := (l.filter fun p => decide (p.2.cr = some p.1)).map (·.1)
abbrev ones (l : Mv) : List Nat := (owns l).filter fun k => decide ((reads l).count (some k) = 1)
def ready (l : Mv) : List Nat := if free l = [] ∧ owns l ≠ [] then ones l else free l
abbrev cut (l : Mv) (r : Nat) : Mv := l.filter fun p => decide (p.1 ≠ r)
abbrev brk1 (sp f : Nat) (p : Nat × Wd) : Nat × Wd := if p.2.cr = some f then (p.1, p.2.put sp) else p
abbrev brk (sp f : Nat) (l : Mv) : Mv := l.map (brk1 sp f)
inductive Run (sp : Nat) : Mv → Mv → Prop
  | nil : Run sp [] []
  | mv {l : Mv} {r : Nat} {w : Wd} {t : List Nat} {rs : Mv} : ready l = r :: t → (r, w) ∈ l → Run sp (cut l r) rs → Run sp l ((r, w) :: rs)
  | br {f : Nat} {w : Wd} {l rs : Mv} : ready ((f, w) :: l) = [] → Run sp (brk sp f ((f, w) :: l)) rs → Run sp ((f, w) :: l) ((sp, ⟨.p, .reg f⟩) :: rs)
/-- rising places, none of them the spare -/
structure Asc (sp : Nat) (l : Mv) : Prop where
  lt : (l.map (·.1)).Pairwise (· < ·)
  sp : sp ∉ l.map (·.1)
variable {sp : Nat} {l : Mv}
theorem Asc.nd (a : Asc sp l) : (l.map (·.1)).Nodup := a.lt.imp fun h => Nat.ne_of_lt h
theorem Asc.cut (a : Asc sp l) (r : Nat) : Asc sp (cut l r) := ⟨a.lt.sublist (List.filter_sublist.map _), fun h => by
  (obtain ⟨p, hp, e⟩ := List.mem_map.mp h)
  exact a.sp (List.mem_map.mpr ⟨p, (List.mem_filter.mp hp).1, e⟩)⟩
theorem brk_keys (f : Nat) : (brk sp f l).map (·.1) = l.map (·.1) := by
  rw [List.map_map]
  (refine List.map_congr_left fun p _ => ?_)
  show (brk1 sp f p).1 = p.1
  unfold brk1
  split <;> rfl
theorem Asc.brk (a : Asc sp l) (f : Nat) : Asc sp (brk sp f l) := ⟨by rw [brk_keys]; exact a.lt, by rw [brk_keys]; exact a.sp⟩
theorem nd_uniq {l : Mv} (nd : (l.map (·.1)).Nodup) {k : Nat} {v w : Wd} (h1 : (k, v) ∈ l) (h2 : (k, w) ∈ l) : v = w := by
  induction l with
  | nil => cases h1
  | cons p l ih =>
    (rw [List.map_cons, List.nodup_cons] at nd)
    rcases List.mem_cons.mp h1 with e1 | h1
    · rcases List.mem_cons.mp h2 with e2 | h2
      · rw [← e1] at e2; cases e2; rfl
      · exact absurd (List.mem_map.mpr ⟨_, h2, rfl⟩) (by rw [← e1] at nd; exact nd.1)
    · rcases List.mem_cons.mp h2 with e2 | h2
      · exact absurd (List.mem_map.mpr ⟨_, h1, rfl⟩) (by rw [← e2] at nd; exact nd.1)
      · exact ih nd.2 h1 h2
/-- as many readings as places, each place read: no two the same, none astray -/
theorem pigeon {α : Type} [DecidableEq α] : ∀ {ks rs : List α}, ks.Nodup → rs.length ≤ ks.length → (∀ k ∈ ks, k ∈ rs) → rs.Nodup ∧ ∀ x ∈ rs, x ∈ ks
  | [], rs, _, hl, _ => by
    have : rs = [] := List.length_eq_zero_iff.mp (by simpa using hl)
    subst this
    exact ⟨List.nodup_nil, fun x h => h⟩
  | k :: ks, rs, nd, hl, hs => by
    rw [List.nodup_cons] at nd
    have hk := hs k List.mem_cons_self
    have pe := List.perm_cons_erase hk
    have len := List.length_erase_of_mem hk
    have hl2 : rs.length ≤ ks.length + 1 := hl
    obtain ⟨h1, h2⟩ := pigeon (ks := ks) (rs := rs.erase k) nd.2 (by omega) fun x hx => (List.mem_erase_of_ne (fun e => nd.1 (by rw [← e]; exact hx))).mpr (hs x (List.mem_cons_of_mem _ hx))
    refine ⟨pe.nodup_iff.mpr (List.nodup_cons.mpr ⟨fun h => nd.1 (h2 k h), h1⟩), fun x hx => ?_⟩
    rcases List.mem_cons.mp (pe.mem_iff.mp hx) with e | e
    · rw [e]; exact List.mem_cons_self
    · exact List.mem_cons_of_mem _ (h2 x e)
/-- nothing ready: the readings are just the places, each once, none its own -/
theorem stuck (nd : (l.map (·.1)).Nodup) (h : ready l = []) : (reads l).Nodup ∧ (∀ x ∈ reads l, ∃ k ∈ l.map (·.1), x = some k) ∧ (∀ k ∈ l.map (·.1), some k ∈ reads l) ∧ ∀ p ∈ l, p.2.cr ≠ some p.1 := by
  have fr : free l = [] := by
    unfold ready at h
    split at h
    · rename_i q; exact q.1
    · exact h
  have all : ∀ k ∈ l.map (·.1), some k ∈ reads l := by
    intro k hk
    obtain ⟨p, hp, rfl⟩ := List.mem_map.mp hk
    refine Decidable.byContradiction fun n => ?_
    have : p.1 ∈ free l := List.mem_map.mpr ⟨p, List.mem_filter.mpr ⟨hp, decide_eq_true n⟩, rfl⟩
    rw [fr] at this
    cases this
  have nd2 : ((l.map (·.1)).map some).Nodup := List.Pairwise.map some (fun _ _ h e => h (Option.some.inj e)) nd
  obtain ⟨h1, h2⟩ := pigeon (ks := (l.map (·.1)).map some) (rs := reads l) nd2 (by simp) fun x hx => by
    obtain ⟨k, hk, rfl⟩ := List.mem_map.mp hx
    exact all k hk
  have ow : owns l = [] := by
    refine Decidable.byContradiction fun n => ?_
    unfold ready at h
    rw [if_pos ⟨fr, n⟩] at h
    cases e : owns l with
    | nil => exact n e
    | cons k ks =>
      have hk : k ∈ owns l := by rw [e]; exact List.mem_cons_self
      have hr : some k ∈ reads l := by
        obtain ⟨p, hp, rfl⟩ := List.mem_map.mp hk
        obtain ⟨hp, q⟩ := List.mem_filter.mp hp
        exact List.mem_map.mpr ⟨p, hp, of_decide_eq_true q⟩
      have : k ∈ ones l := List.mem_filter.mpr ⟨hk, decide_eq_true (by rw [h1.count, if_pos hr])⟩
      rw [h] at this
      cases this
  refine ⟨h1, fun x hx => ?_, all, fun p hp e => ?_⟩
  · obtain ⟨k, hk, rfl⟩ := List.mem_map.mp (h2 x hx)
    exact ⟨k, hk, rfl⟩
  · have : p.1 ∈ owns l := List.mem_map.mpr ⟨p, List.mem_filter.mpr ⟨hp, decide_eq_true e⟩, rfl⟩
    rw [ow] at this
    cases this
/-- what is ready is a place, and none but its own word reads it -/
theorem ready_in (nd : (l.map (·.1)).Nodup) {r : Nat} (h : r ∈ ready l) : (∃ w, (r, w) ∈ l) ∧ ∀ p ∈ l, p.1 ≠ r → p.2.cr ≠ some r := by
  unfold ready at h
  split at h
  · obtain ⟨h1, h2⟩ := List.mem_filter.mp h
    have h2 := of_decide_eq_true h2
    obtain ⟨p, hp, rfl⟩ := List.mem_map.mp h1
    obtain ⟨hp, q⟩ := List.mem_filter.mp hp
    have q := of_decide_eq_true q
    refine ⟨⟨p.2, hp⟩, fun z hz n e => ?_⟩
    obtain ⟨a, b, rfl⟩ := List.append_of_mem hp
    have h2 : ((a ++ p :: b).map (·.2.cr)).count (some p.1) = 1 := h2
    rw [List.map_append, List.count_append, List.map_cons, List.count_cons, q] at h2
    simp only [beq_self_eq_true, if_true] at h2
    have h3 : List.count (some p.1) (a.map (·.2.cr)) = 0 ∧ List.count (some p.1) (b.map (·.2.cr)) = 0 := by
      constructor <;> omega
    rcases List.mem_append.mp hz with m | m
    · exact List.count_eq_zero.mp h3.1 (List.mem_map.mpr ⟨z, m, e⟩)
    · rcases List.mem_cons.mp m with m | m
      · exact n (by rw [m])
      · exact List.count_eq_zero.mp h3.2 (List.mem_map.mpr ⟨z, m, e⟩)
  · obtain ⟨p, hp, rfl⟩ := List.mem_map.mp h
    obtain ⟨hp, q⟩ := List.mem_filter.mp hp
    exact ⟨⟨p.2, hp⟩, fun z hz _ e => of_decide_eq_true q (List.mem_map.mpr ⟨z, hz, e⟩)⟩
theorem free_ready (h : free l ≠ []) : ready l = free l := by
  unfold ready
  rw [if_neg fun q => h q.1]
theorem cut_head {f : Nat} {w : Wd} (nd : (((f, w) :: l).map (·.1)).Nodup) : cut ((f, w) :: l) f = l := by
  (rw [List.map_cons, List.nodup_cons] at nd)
  unfold cut
  rw [List.filter_cons_of_neg (by simp)]
  exact List.filter_eq_self.mpr fun p hp => decide_eq_true fun e => nd.1 (List.mem_map.mpr ⟨p, hp, e⟩)
/-- the moves end, and are few -/
theorem run_ex : ∀ (n : Nat) (l : Mv), l.length ≤ n → Asc sp l → ∃ rs, Run sp l rs ∧ 2 * rs.length ≤ 3 * l.length ∧ rs.length ≤ 2 * l.length
  | _, [], _, _ => ⟨[], .nil, by simp, by simp⟩
  | 0, p :: l, h, _ => by simp at h
  | n + 1, (f, w) :: l, hn, a => by
    have hn : l.length + 1 ≤ n + 1 := hn
    cases hr : ready ((f, w) :: l) with
    | cons r t =>
      obtain ⟨⟨v, hv⟩, _⟩ := ready_in a.nd (r := r) (by rw [hr]; exact List.mem_cons_self)
      have lt : (cut ((f, w) :: l) r).length < ((f, w) :: l).length := by
        refine Nat.lt_of_le_of_ne (List.length_filter_le _ _) fun e => ?_
        have := List.length_filter_eq_length_iff.mp e (r, v) hv
        simp at this
      have lt2 : (cut ((f, w) :: l) r).length < l.length + 1 := lt
      obtain ⟨rs, h1, h2, h3⟩ := run_ex n (cut ((f, w) :: l) r) (by omega) (a.cut r)
      exact ⟨(r, v) :: rs, .mv hr hv h1, by simp only [List.length_cons]; omega, by simp only [List.length_cons]; omega⟩
    | nil =>
      obtain ⟨s1, s2, s3, s4⟩ := stuck a.nd hr
      have nd := a.nd
      -- the head's word reads another place
      obtain ⟨u, hu, eu⟩ := s2 _ (List.mem_map.mpr ⟨(f, w), List.mem_cons_self, rfl⟩)
      have eu : w.cr = some u := eu
      have uf : u ≠ f := fun e => s4 (f, w) List.mem_cons_self (by rw [eu, e])
      have fsp : f ≠ sp := fun e => a.sp (by rw [← e]; simp)
      have usp : u ≠ sp := fun e => a.sp (by rw [← e]; exact hu)
      have hu2 : u ∈ l.map (·.1) := by
        rw [List.map_cons] at hu
        exact (List.mem_cons.mp hu).resolve_left uf
      have hw1 : brk1 sp f (f, w) = (f, w) := by
        unfold brk1
        rw [if_neg]
        rw [eu]
        exact fun e => uf (Option.some.inj e)
      have be : brk sp f ((f, w) :: l) = (f, w) :: brk sp f l := by
        unfold brk
        rw [List.map_cons, hw1]
      have a1 : Asc sp ((f, w) :: brk sp f l) := by rw [← be]; exact a.brk f
      have crb : ∀ p ∈ l, ∀ k : Nat, k ≠ sp → ((brk1 sp f p).2.cr = some k ↔ p.2.cr = some k ∧ k ≠ f) := by
        intro p _ k hk
        unfold brk1
        split
        · rename_i q
          constructor
          · intro e
            exact absurd (Option.some.inj (show some sp = some k from e)).symm hk
          · rintro ⟨e, n⟩
            rw [q] at e
            exact absurd (Option.some.inj e).symm n
        · rename_i q
          constructor
          · intro e
            exact ⟨e, fun z => q (by rw [← z]; exact e)⟩
          · exact fun e => e.1
      have rd : ∀ k : Nat, k ≠ sp → (some k ∈ reads (brk sp f l) ↔ some k ∈ reads l ∧ k ≠ f) := by
        intro k hk
        constructor
        · intro hm
          obtain ⟨p', hp', e⟩ := List.mem_map.mp hm
          obtain ⟨p, hp, rfl⟩ := List.mem_map.mp hp'
          obtain ⟨e1, e2⟩ := (crb p hp k hk).mp e
          exact ⟨List.mem_map.mpr ⟨p, hp, e1⟩, e2⟩
        · rintro ⟨hm, n⟩
          (obtain ⟨p, hp, e⟩ := List.mem_map.mp hm)
          exact List.mem_map.mpr ⟨brk1 sp f p, List.mem_map.mpr ⟨p, hp, rfl⟩, (crb p hp k hk).mpr ⟨e, n⟩⟩
      -- then the head is ready
      have fr1 : ∃ t, free ((f, w) :: brk sp f l) = f :: t := by
        have : some f ∉ reads ((f, w) :: brk sp f l) := by
          intro hm
          (rcases List.mem_cons.mp hm with e | e)
          · exact uf (Option.some.inj (eu.symm.trans e.symm))
          · exact ((rd f fsp).mp e).2 rfl
        unfold free
        rw [List.filter_cons_of_pos (by exact decide_eq_true this), List.map_cons]
        exact ⟨_, rfl⟩
      obtain ⟨t1, fr1⟩ := fr1
      have r1 : ready ((f, w) :: brk sp f l) = f :: t1 := by rw [free_ready (by rw [fr1]; simp), fr1]
      have c1 : cut ((f, w) :: brk sp f l) f = brk sp f l := cut_head a1.nd
      -- then what the head's word read
      have a2 : Asc sp (brk sp f l) := by have := a1.cut f; rwa [c1] at this
      have nu : some u ∉ reads l := by
        have s1 : (w.cr :: reads l).Nodup := s1
        rw [eu, List.nodup_cons] at s1
        exact s1.1
      have fr2 : u ∈ free (brk sp f l) := by
        have hk : u ∈ (brk sp f l).map (·.1) := by rw [brk_keys]; exact hu2
        obtain ⟨p, hp, rfl⟩ := List.mem_map.mp hk
        exact List.mem_map.mpr ⟨p, List.mem_filter.mpr ⟨hp, decide_eq_true fun e => nu ((rd p.1 usp).mp e).1⟩, rfl⟩
      have ne2 : free (brk sp f l) ≠ [] := fun e => by rw [e] at fr2; cases fr2
      cases e2 : free (brk sp f l) with
      | nil => exact absurd e2 ne2
      | cons r t2 =>
        have r2 : ready (brk sp f l) = r :: t2 := by rw [free_ready ne2, e2]
        obtain ⟨⟨v, hv⟩, _⟩ := ready_in a2.nd (r := r) (by rw [r2]; exact List.mem_cons_self)
        have lt : (cut (brk sp f l) r).length < (brk sp f l).length := by
          refine Nat.lt_of_le_of_ne (List.length_filter_le _ _) fun e => ?_
          have := List.length_filter_eq_length_iff.mp e (r, v) hv
          simp at this
        have lb : (brk sp f l).length = l.length := List.length_map _
        obtain ⟨rs, h1, h2, h3⟩ := run_ex n (cut (brk sp f l) r) (by omega) (a2.cut r)
        refine ⟨(sp, ⟨.p, .reg f⟩) :: (f, w) :: (r, v) :: rs, .br hr ?_, by simp only [List.length_cons]; omega, by simp only [List.length_cons]; omega⟩
        rw [be]
        refine .mv r1 List.mem_cons_self ?_
        rw [c1]
        exact .mv r2 hv h1
end K51
end

section
set_option maxRecDepth 100000
set_option maxHeartbeats 1600000
/-! K51E: the moves do what was due. -/
namespace K51
open PySem PV
def val (xs : List D) (w : Wd) : D := match w.w with
  | .reg s => xs.getD s .non
  | o => o.d
def exec : List D → Mv → List D
  | xs, [] => xs
  | xs, p :: rs => exec (xs.set p.1 (val xs p.2)) rs
theorem exec_len : ∀ (rs : Mv) (xs : List D), (exec xs rs).length = xs.length
  | [], xs => rfl
  | p :: rs, xs => by
    show (exec (xs.set p.1 (val xs p.2)) rs).length = _
    rw [exec_len, List.length_set]
theorem val_reg {xs : List D} {w : Wd} {s : Nat} (h : w.cr = some s) : val xs w = xs.getD s .non := by
  obtain ⟨sh, w⟩ := w
  cases w <;> simp [Wd.cr] at h
  rw [h]; rfl
theorem val_set {xs : List D} {w : Wd} {r : Nat} {x : D} (h : w.cr ≠ some r) : val (xs.set r x) w = val xs w := by
  obtain ⟨sh, w⟩ := w
  cases w with
  | reg s =>
    have hs : r ≠ s := fun e => h (by rw [e]; rfl)
    show (xs.set r x).getD s .non = xs.getD s .non
    simp only [List.getD_eq_getElem?_getD, List.getElem?_set_ne hs]
  | int n => rfl
  | lab n => rfl
/-- places and registers in range -/
structure Rng (N sp : Nat) (l : Mv) : Prop where
  sp : sp < N
  k : ∀ p ∈ l, p.1 < N
  r : ∀ p ∈ l, ∀ s, p.2.cr = some s → s < N
theorem Rng.cut {N sp : Nat} {l : Mv} (h : Rng N sp l) (r : Nat) : Rng N sp (cut l r) := ⟨h.sp, fun p hp => h.k p (List.mem_filter.mp hp).1, fun p hp => h.r p (List.mem_filter.mp hp).1⟩
theorem Rng.brk {N sp : Nat} {l : Mv} (h : Rng N sp l) (f : Nat) : Rng N sp (brk sp f l) := by
  refine ⟨h.sp, fun p hp => ?_, fun p hp s e => ?_⟩ <;> obtain ⟨q, hq, rfl⟩ := List.mem_map.mp hp
  · have : (brk1 sp f q).1 = q.1 := by unfold brk1; split <;> rfl
    rw [this]
    exact h.k q hq
  · unfold brk1 at e
    split at e
    · obtain rfl := Option.some.inj (show some sp = some s from e)
      exact h.sp
    · exact h.r q hq s e
theorem run_ok {N sp : Nat} {l rs : Mv} (r : Run sp l rs) : Asc sp l → Rng N sp l → ∀ {xs due : List D}, xs.length = N → (∀ p ∈ l, val xs p.2 = due.getD p.1 .non) → (∀ s, s ∉ l.map (·.1) → s ≠ sp → xs.getD s .non = due.getD s .non) → ∀ s, s ≠ sp → (exec xs rs).getD s .non = due.getD s .non := by
  induction r with
  | nil => intro _ _ xs due _ _ hB s hs; exact hB s (by simp) hs
  | @mv l r w t rs hr hw _ ih =>
    intro a g xs due hl hA hB
    obtain ⟨_, hn⟩ := ready_in a.nd (r := r) (by rw [hr]; exact List.mem_cons_self)
    refine ih (a.cut r) (g.cut r) (by rw [List.length_set]; exact hl) (fun p hp => ?_) (fun s hs hsp => ?_)
    · obtain ⟨h1, h2⟩ := List.mem_filter.mp hp
      rw [val_set (hn p h1 (of_decide_eq_true h2))]
      exact hA p h1
    · by_cases e : s = r
      · subst e
        have hlt : s < xs.length := by rw [hl]; exact g.k _ hw
        have : (xs.set s (val xs w)).getD s .non = val xs w := by (simp [List.getD_eq_getElem?_getD, hlt])
        exact this.trans (hA _ hw)
      · have : (xs.set r (val xs w)).getD s .non = xs.getD s .non := by simp only [List.getD_eq_getElem?_getD, List.getElem?_set_ne (Ne.symm e)]
        refine this.trans (hB s (fun hm => hs ?_) hsp)
        obtain ⟨p, hp, rfl⟩ := List.mem_map.mp hm
        exact List.mem_map.mpr ⟨p, List.mem_filter.mpr ⟨hp, decide_eq_true e⟩, rfl⟩
  | @br f w l rs hr _ ih =>
    intro a g xs due hl hA hB
    obtain ⟨s1, s2, s3, s4⟩ := stuck a.nd hr
    have hlt : sp < xs.length := by rw [hl]; exact g.sp
    refine ih (a.brk f) (g.brk f) (by rw [List.length_set]; exact hl) (fun p hp => ?_) (fun s hs hsp => ?_)
    · obtain ⟨q, hq, rfl⟩ := List.mem_map.mp hp
      have key : (brk1 sp f q).1 = q.1 := by unfold brk1; split <;> rfl
      rw [key, ← hA q hq]
      unfold brk1
      split
      · rename_i e
        rw [val_reg e, val_reg (s := sp) rfl]
        show (xs.set sp (xs.getD f .non)).getD sp .non = _
        (simp [List.getD_eq_getElem?_getD, hlt])
      · refine val_set fun e => ?_
        obtain ⟨k, hk, e2⟩ := s2 _ (List.mem_map.mpr ⟨q, hq, rfl⟩)
        have e : q.2.cr = some sp := e
        have e2 : q.2.cr = some k := e2
        rw [e] at e2
        exact a.sp (by rw [Option.some.inj e2]; exact hk)
    · rw [brk_keys] at hs
      have : (xs.set sp (val xs ⟨.p, .reg f⟩)).getD s .non = xs.getD s .non := by simp only [List.getD_eq_getElem?_getD, List.getElem?_set_ne (Ne.symm hsp)]
      exact this.trans (hB s hs hsp)
theorem run_rows {N sp : Nat} {l rs : Mv} (r : Run sp l rs) : Rng N sp l → ∀ p ∈ rs, (p.1 ∈ l.map (·.1) ∨ p.1 = sp) ∧ ∀ s, p.2.cr = some s → s < N := by
  induction r with
  | nil => intro _ p hp; cases hp
  | @mv l r w t rs hr hw _ ih =>
    intro g p hp
    (rcases List.mem_cons.mp hp with e | hp)
    · subst e
      exact ⟨.inl (List.mem_map.mpr ⟨_, hw, rfl⟩), g.r _ hw⟩
    · obtain ⟨h1, h2⟩ := ih (g.cut r) p hp
      refine ⟨h1.imp_left fun hm => ?_, h2⟩
      obtain ⟨q, hq, e⟩ := List.mem_map.mp hm
      exact List.mem_map.mpr ⟨q, (List.mem_filter.mp hq).1, e⟩
  | @br f w l rs hr _ ih =>
    intro g p hp
    (rcases List.mem_cons.mp hp with e | hp)
    · subst e
      refine ⟨.inr rfl, fun s e => ?_⟩
      obtain rfl := Option.some.inj (show some f = some s from e)
      exact g.k (f, w) List.mem_cons_self
    · obtain ⟨h1, h2⟩ := ih (g.brk f) p hp
      rw [brk_keys] at h1
      exact ⟨h1, h2⟩
end K51
end

section
set_option maxRecDepth 100000
set_option maxHeartbeats 1600000
/-! K51F: what moved_at_once's pieces tell. -/
namespace K51
open PySem PV
def rowD (p : Nat × Wd) : D := .tup [.str "move", .int p.1, p.2.d]
def kv (p : Nat × Wd) : L2.Key × D := (.inl (p.1 : Int), p.2.d)
abbrev kvs (l : Mv) : List (L2.Key × D) := l.map kv
def Hw (h0 : Hh) (rs l : Mv) : Hh := h0 ++ [.lst (rs.map rowD), .dct (kvs l)]
theorem wd_rlt (w : Wd) : w.d.rlt 0 = true := by
  obtain ⟨sh, w⟩ := w
  cases sh <;> cases w <;> rfl
section
variable {h0 : Hh} {rs l : Mv} {P m : Nat} {h : Hh}
theorem hw_i : (Hw h0 rs l)[h0.length]? = some (.lst (rs.map rowD)) := by simp [Hw]
theorem hw_j : (Hw h0 rs l)[h0.length + 1]? = some (.dct (kvs l)) := by simp [Hw]
theorem hw_app {p : Nat × Wd} (hz : rs.length + 1 ≤ 16777216) : mthOp .append (.ref h0.length) [rowD p] (Hw h0 rs l) = .ok .non (Hw h0 (rs ++ [p]) l) := by
  rw [PW.mt_app hw_i (by rw [List.length_map]; exact hz)]
  simp [Hw]
theorem hw_isl : (D.ref h0.length).isL (Hw h0 rs l) = true := PW.is_l hw_i
theorem hw_isd : (D.ref (h0.length + 1)).isDc (Hw h0 rs l) = true := by
  show (match (Hw h0 rs l)[h0.length + 1]? with | some (.dct _) => true | _ => false) = true
  rw [hw_j]
theorem hw_tru : (D.ref (h0.length + 1)).tru (Hw h0 rs l) = some (!l.isEmpty) := by
  show (match (Hw h0 rs l)[h0.length + 1]? with | some (.lst xs) => some (!xs.isEmpty) | some (.dct kvs) => some (!kvs.isEmpty) | _ => none) = _
  rw [hw_j]
  cases l <;> rfl
theorem val_kv (nd : (l.map (·.1)).Nodup) {k : Nat} {w : Wd} (hm : (k, w) ∈ l) : valD (kvs l) (.inl (k : Int)) = some w.d := by
  induction l with
  | nil => cases hm
  | cons p l ih =>
    (rw [List.map_cons, List.nodup_cons] at nd)
    unfold valD
    rw [kvs, List.map_cons, List.find?_cons]
    by_cases e : p.1 = k
    · have : p = (k, w) := by
        (rcases List.mem_cons.mp hm with q | q)
        · exact q.symm
        · exact absurd (List.mem_map.mpr ⟨_, q, e.symm⟩) nd.1
      subst this
      simp [kv]
    · have ne : ¬ (kv p).1 = .inl (k : Int) := fun z => e (by have := Sum.inl.inj z; omega)
      simp only [ne, decide_false]
      refine ih nd.2 ?_
      (rcases List.mem_cons.mp hm with q | q)
      · exact absurd (by rw [← q]) e
      · exact q
theorem drop_kv (r : Nat) : dropD (kvs l) (.inl (r : Int)) = kvs (cut l r) := by
  unfold dropD kvs cut
  rw [List.filter_map]
  congr 1
  refine List.filter_congr fun p _ => ?_
  by_cases e : p.1 = r
  · simp [kv, e]
  · have ne : ¬ (kv p).1 = .inl (r : Int) := fun z => e (by have := Sum.inl.inj z; omega)
    simp [ne, e, Function.comp]
theorem hw_pop (nd : (l.map (·.1)).Nodup) {r : Nat} {w : Wd} (hm : (r, w) ∈ l) : dpopOp (.ref (h0.length + 1)) (.int r) (Hw h0 rs l) = .ok w.d (Hw h0 rs (cut l r)) := by
  unfold dpopOp
  dsimp only
  rw [hw_j]
  show (match valD (kvs l) (.inl (r : Int)) with | some v => R.ok v _ | none => R.bad) = _
  rw [val_kv nd hm]
  show R.ok w.d ((Hw h0 rs l).set (h0.length + 1) (.dct (dropD (kvs l) (.inl (r : Int))))) = _
  rw [drop_kv]
  simp [Hw]
theorem hw_idx (nd : (l.map (·.1)).Nodup) {r : Nat} {w : Wd} (hm : (r, w) ∈ l) : opIdx (Hw h0 rs l) (.ref (h0.length + 1)) (.int r) = some w.d := by
  rw [PW.idx_dct hw_j]
  exact val_kv nd hm
theorem put_kv {k : Nat} {v : Wd} : ∀ {l : Mv}, k ∈ l.map (·.1) → putD (kvs l) (.inl (k : Int)) v.d = kvs (l.map fun p => if p.1 = k then (p.1, v) else p) := by
  intro l hm
  unfold putD
  have any : ((kvs l).any fun kv => decide (kv.1 = .inl (k : Int))) = true := by
    obtain ⟨p, hp, rfl⟩ := List.mem_map.mp hm
    exact List.any_eq_true.mpr ⟨kv p, List.mem_map.mpr ⟨p, hp, rfl⟩, decide_eq_true rfl⟩
  rw [if_pos any, kvs, List.map_map, kvs, List.map_map]
  (refine List.map_congr_left fun p _ => ?_)
  by_cases e : p.1 = k
  · simp [kv, e, Function.comp]
  · have ne : ¬ (Sum.inl (p.1 : Int) : L2.Key) = .inl (k : Int) := fun z => e (by have := Sum.inl.inj z; omega)
    simp [kv, e, Function.comp, ne]
theorem hw_put {k : Nat} {v : Wd} (hm : k ∈ l.map (·.1)) (hz : l.length + 1 ≤ 16777216) : stoOp (.ref (h0.length + 1)) (.int k) v.d (Hw h0 rs l) = some (Hw h0 rs (l.map fun p => if p.1 = k then (p.1, v) else p)) := by
  rw [PW.sto_dct hw_j (by rw [List.length_map]; exact hz), put_kv hm]
  simp [Hw]
theorem keyInts_kv : ∀ l : Mv, keyInts (kvs l) = some (l.map fun p => (p.1 : Int))
  | [] => rfl
  | p :: l => by
    show (keyInts (kvs l)).map _ = _
    rw [keyInts_kv l]; rfl
theorem srt_asc {l : Mv} (a : (l.map (·.1)).Pairwise (· < ·)) : srtI (l.map fun p => (p.1 : Int)) = l.map fun p => (p.1 : Int) := by
  refine (srtI_eq (List.Perm.refl _) ?_).symm
  rw [List.pairwise_map] at a ⊢
  exact a.imp fun h => by omega
theorem hw_sorted {sp : Nat} (a : Asc sp l) (hl : l.length < 64) : opBf .sorted (Hw h0 rs l) [.ref (h0.length + 1)] = some (.lst (l.map fun p => .int p.1)) := by
  show bfSorted (Hw h0 rs l) [.ref (h0.length + 1)] = _
  unfold bfSorted
  simp only [hw_j]
  rw [keyInts_kv, Option.bind_some, if_pos (by rw [List.length_map]; exact hl), srt_asc a.lt, List.map_map]
  rfl
theorem hw_min {sp f : Nat} {w : Wd} (a : Asc sp ((f, w) :: l)) : opBf .minD (Hw h0 rs ((f, w) :: l)) [.ref (h0.length + 1)] = some (.int f) := by
  show bfMinD (Hw h0 rs ((f, w) :: l)) [.ref (h0.length + 1)] = _
  unfold bfMinD
  simp only [hw_j]
  rw [keyInts_kv, Option.bind_some, srt_asc a.lt]
  rfl
/-! comparisons -/
theorem eqc (c : Option Nat) (k : Nat) : (crD c).eqv (.int k) = decide (c = some k) := by
  cases c with
  | none => rfl
  | some s =>
    show ((s : Int) == (k : Int)) = _
    by_cases e : s = k
    · subst e; simp
    · have : ((s : Int) == (k : Int)) = false := beq_eq_false_iff_ne.mpr fun z => e (by omega)
      rw [this]
      simp [e]
theorem cmp_eqc (c : Option Nat) (k : Nat) : opCmp .eq h (crD c) (.int k) = some (decide (c = some k)) := by
  have : opCmp .eq h (crD c) (.int k) = some ((crD c).eqv (.int k)) := by cases c <;> rfl
  rw [this, eqc]
theorem flats (cs : List (Option Nat)) : (cs.map crD).all D.flat = true := by
  rw [List.all_map, List.all_eq_true]
  intro c _
  cases c <;> rfl
theorem cmp_nin (cs : List (Option Nat)) (k : Nat) : opCmp .nin h (.int k) (.lst (cs.map crD)) = some (decide (some k ∉ cs)) := by
  rw [nin_eq]
  show (if (D.int k).shp && (D.lst (cs.map crD)).shp then some ((cs.map crD).any fun y => y.eqv (.int k)) else none).map _ = _
  rw [PW.shp_lstF (flats cs), shp_int]
  have : ((cs.map crD).any fun y => y.eqv (.int k)) = decide (some k ∈ cs) := by
    rw [List.any_map]
    have e : ((fun y : D => y.eqv (.int k)) ∘ crD) = fun c => decide (c = some k) := funext fun c => eqc c k
    rw [e]
    induction cs with
    | nil => rfl
    | cons c cs ih =>
      rw [List.any_cons, ih]
      by_cases q : c = some k
      · subst q; simp
      · have q2 : ¬ some k = c := fun z => q z.symm
        simp [q, q2]
  rw [this]
  simp
theorem cnt_ok (cs : List (Option Nat)) (k : Nat) : cntD (cs.map crD) [.int k] = some (.int ((cs.count (some k) : Nat) : Int)) := by
  have ha : (cs.map crD).all D.atm = true := by
    rw [List.all_map, List.all_eq_true]
    intro c _
    cases c <;> rfl
  show (if (cs.map crD).all D.atm then some (D.int ((cs.map crD).countP (D.isI k) : Nat)) else none) = _
  rw [if_pos ha]
  congr 3
  rw [List.countP_map, List.count_eq_countP]
  refine List.countP_congr fun c _ => ?_
  cases c with
  | none => simp [Function.comp, crD, D.isI]
  | some s =>
    simp only [Function.comp, crD, D.isI, decide_eq_true_eq, beq_iff_eq, Option.some.injEq]
    omega
abbrev iD (k : Nat) : D := .int k
theorem eq_e (ks : List Nat) : opCmp .eq h (.lst (ks.map iD)) (.lst []) = some ks.isEmpty := by
  have f : (ks.map iD).all D.flat = true := by rw [List.all_map, List.all_eq_true]; intro _ _; rfl
  show (if D.cok ((D.lst (ks.map iD)).res h) ((D.lst []).res h) then some (((D.lst (ks.map iD)).res h).eqv ((D.lst []).res h)) else none) = _
  rw [show (D.lst (ks.map iD)).res h = D.lst (ks.map iD) from rfl, show (D.lst []).res h = D.lst [] from rfl, cok_shp (PW.shp_lstF f) rfl]
  cases ks <;> rfl
theorem ne_e (ks : List Nat) : opCmp .ne h (.lst (ks.map iD)) (.lst []) = some (!ks.isEmpty) := by
  show (opEq h _ _).map (!·) = _
  have := eq_e (h := h) ks
  have : opEq h (.lst (ks.map iD)) (.lst []) = some ks.isEmpty := this
  rw [this]; rfl
end
end K51
end

section
set_option maxRecDepth 100000
set_option maxHeartbeats 1600000
/-! K51G: one turn of moved_at_once. -/
namespace K51
open PySem PV
theorem fm_if {α β : Type} (q : α → Bool) (φ : α → β) : ∀ l : List α, (l.filterMap fun p => if q p = true then some (φ p) else none) = (l.filter q).map φ
  | [] => rfl
  | p :: l => by
    cases h : q p with
    | true => rw [List.filterMap_cons_some (b := φ p) (by rw [h]; rfl), List.filter_cons_of_pos h, List.map_cons, fm_if q φ l]
    | false => rw [List.filterMap_cons_none (by rw [h]; rfl), List.filter_cons_of_neg (by rw [h]; simp), fm_if q φ l]
abbrev ro (pd : D) (sp i : Nat) (o4 o5 o6 o7 o8 o9 : Option D) : PV.Env := [some pd, some (.int sp), some (.ref i), some (.ref (i + 1)), o4, o5, o6, o7, o8, o9]
section
variable {h0 : Hh} {rs l : Mv} {P m sp : Nat} {pd : D} {o4 o5 o6 o7 o8 o9 : Option D}
abbrev rdD (l : Mv) : D := .lst ((reads l).map crD)
theorem lcv_ok : ∀ l : Mv, lcvLoop (evE (F P (m + 1)) (G P) x_moved_at_once_1).v 10 5 ((kvs l).map (·.2)) = some ((reads l).map crD)
  | [] => rfl
  | p :: l => by
    have e : (evE (F P (m + 1)) (G P) x_moved_at_once_1).v ((List.replicate 10 none).set 5 (some p.2.d)) [] = .ok (crD p.2.cr) [] := by
      show (evE (F P (m + 1)) (G P) x_moved_at_once_1).v [none, none, none, none, none, some p.2.d, none, none, none, none] [] = _
      simp -implicitDefEqProofs [cr_ok]
    show lcvLoop _ 10 5 (p.2.d :: (kvs l).map (·.2)) = _
    unfold lcvLoop
    rw [e]
    have a : (crD p.2.cr).atm = true := by cases p.2.cr <;> rfl
    dsimp only
    rw [if_pos a, lcv_ok l]
    rfl
theorem ev_read (hl : l.length < 64) : (evE (F P (m + 1)) (G P) e_moved_at_once_1).v (ro pd sp h0.length o4 o5 o6 o7 o8 o9) (Hw h0 rs l) = .ok (rdD l) (Hw h0 rs l) := by
  rw [v_lcv]
  show lcvOp _ 10 5 (some (some (.ref (h0.length + 1)))) _ = _
  unfold lcvOp
  dsimp only
  rw [hw_j]
  dsimp only
  have a : (PV.sizeOk (kvs l).length && (kvs l).all fun p => p.2.rlt 0) = true := by
    rw [Bool.and_eq_true]
    refine ⟨decide_eq_true (by rw [List.length_map]; omega), List.all_eq_true.mpr fun p hp => ?_⟩
    obtain ⟨q, _, rfl⟩ := List.mem_map.mp hp
    exact wd_rlt q.2
  rw [if_pos a, lcv_ok l]
  rfl
variable (a : Asc sp l) (hl : l.length < 64)
include a hl
theorem ev_free : (evE (F P (m + 1)) (G P) e_moved_at_once_2).v (ro pd sp h0.length o4 o5 (some (rdD l)) o7 o8 o9) (Hw h0 rs l) = .ok (.lst ((free l).map iD)) (Hw h0 rs l) := by
  have z : l.length ≤ 16777216 := by omega
  have t := PW.lcFm (turn := lcTurn (.v 4) (evE (F P (m + 1)) (G P) c_moved_at_once_2) (evE (F P (m + 1)) (G P) x_moved_at_once_2) (ro pd sp h0.length o4 o5 (some (rdD l)) o7 o8 o9)) (h := Hw h0 rs l) (acc := []) (zs := l) (fun p => .int p.1)
    (fun p => if decide (some p.1 ∉ reads l) = true then some (iD p.1) else none) fun p _ => by
      have e := cmp_nin (h := Hw h0 rs l) (reads l) p.1
      by_cases c : some p.1 ∈ reads l
      · simp -implicitDefEqProofs [lcTurn, Tg.put, e, c]
      · simp -implicitDefEqProofs [lcTurn, Tg.put, e, c]
  rw [fm_if, List.nil_append] at t
  rw [v_lcc, i_ev]
  simp -implicitDefEqProofs [hw_sorted a hl, z, t]
theorem ev_own : (evE (F P (m + 1)) (G P) e_moved_at_once_3).v (ro pd sp h0.length o4 o5 o6 o7 o8 o9) (Hw h0 rs l) = .ok (.lst ((owns l).map iD)) (Hw h0 rs l) := by
  have z : l.length ≤ 16777216 := by omega
  have t := PW.lcFm (turn := lcTurn (.v 4) (evE (F P (m + 1)) (G P) c_moved_at_once_3) (evE (F P (m + 1)) (G P) x_moved_at_once_3) (ro pd sp h0.length o4 o5 o6 o7 o8 o9)) (h := Hw h0 rs l) (acc := []) (zs := l) (fun p => .int p.1)
    (fun p => if decide (p.2.cr = some p.1) = true then some (iD p.1) else none) fun p hp => by
      have e := cmp_eqc (h := Hw h0 rs l) p.2.cr p.1
      have d := hw_idx (h0 := h0) (rs := rs) a.nd (r := p.1) (w := p.2) hp
      by_cases c : p.2.cr = some p.1
      · rw [c] at e
        simp -implicitDefEqProofs [lcTurn, Tg.put, d, cr_ok, e, c]
      · simp -implicitDefEqProofs [lcTurn, Tg.put, d, cr_ok, e, c]
  rw [fm_if, List.nil_append] at t
  rw [v_lcc, i_ev]
  simp -implicitDefEqProofs [hw_sorted a hl, z, t]
end
theorem ev_ones {l : Mv} {P m sp i : Nat} {pd : D} {o4 o5 o7 o9 : Option D} {h : Hh} {ks : List Nat} (z : ks.length ≤ 16777216) : (evE (F P (m + 1)) (G P) e_moved_at_once_4).v (ro pd sp i o4 o5 (some (rdD l)) o7 (some (.lst (ks.map iD))) o9) h = .ok (.lst ((ks.filter fun k => decide ((reads l).count (some k) = 1)).map iD)) h := by
  have t := PW.lcFm (turn := lcTurn (.v 4) (evE (F P (m + 1)) (G P) c_moved_at_once_4) (evE (F P (m + 1)) (G P) x_moved_at_once_4) (ro pd sp i o4 o5 (some (rdD l)) o7 (some (.lst (ks.map iD))) o9)) (h := h) (acc := []) (zs := ks) iD
    (fun k => if decide ((reads l).count (some k) = 1) = true then some (iD k) else none) fun k _ => by
      have e := cnt_ok (reads l) k
      have s : ((rdD l).cts h).isSome = true := rfl
      have s2 : ((rdD l).cts h).bind (fun ds => cntD ds [iD k]) = some (.int (((reads l).count (some k) : Nat) : Int)) := e
      by_cases c : (reads l).count (some k) = 1
      · have c2 : ((((reads l).count (some k) : Nat) : Int) == 1) = true := by rw [c]; rfl
        simp -implicitDefEqProofs [lcTurn, Tg.put, s, s2, c, c2]
      · have c2 : ((((reads l).count (some k) : Nat) : Int) == 1) = false := beq_eq_false_iff_ne.mpr (by omega)
        simp -implicitDefEqProofs [lcTurn, Tg.put, s, s2, c, c2]
  rw [fm_if, List.nil_append] at t
  rw [v_lcc, i_ev]
  simp -implicitDefEqProofs [z, t]
end K51
end

section
set_option maxRecDepth 100000
set_option maxHeartbeats 1600000
/-! K51H: moved_at_once as a whole. -/
namespace K51
open PySem PV
section
variable {h0 : Hh} {rs l : Mv} {P m sp : Nat} {pd : D} {o4 o5 o6 o7 o8 o9 : Option D}
abbrev lstN (ks : List Nat) : D := .lst (ks.map iD)
abbrev s4 : S := .ite (.and (.cmp .eq (.var 7) (.lst (.nil))) (.cons (.cmp .ne (.var 8) (.lst (.nil))) .nil)) (.cons (.asgLc 7 (e_moved_at_once_4)) .nil) (.nil)
theorem st4 {h : Hh} (hl : l.length < 64) : evS (F P (m + 1)) (G P) s4 (ro pd sp h0.length o4 o5 (some (rdD l)) (some (lstN (free l))) (some (lstN (owns l))) o9) h =
    .nxt (ro pd sp h0.length o4 o5 (some (rdD l)) (some (lstN (ready l))) (some (lstN (owns l))) o9) h := by
  have z : (owns l).length ≤ 16777216 := by
    have := List.length_filter_le (fun p : Nat × Wd => decide (p.2.cr = some p.1)) l
    rw [List.length_map]; omega
  have t := ev_ones (P := P) (m := m) (sp := sp) (i := h0.length) (l := l) (pd := pd) (o4 := o4) (o5 := o5) (o7 := some (lstN (free l))) (o9 := o9) (h := h) z
  have tc : (evE (F P (m + 1)) (G P) (.and (.cmp .eq (.var 7) (.lst (.nil))) (.cons (.cmp .ne (.var 8) (.lst (.nil))) .nil))).t (ro pd sp h0.length o4 o5 (some (rdD l)) (some (lstN (free l))) (some (lstN (owns l))) o9) h = .ok (decide (free l = [] ∧ owns l ≠ [])) h := by
    generalize free l = fs
    generalize owns l = os
    have e1 := eq_e (h := h) fs
    have e2 := ne_e (h := h) os
    simp -implicitDefEqProofs [e1, e2]
    cases fs <;> cases os <;> simp
  unfold ready
  rw [s_ite, tc, thn_ok]
  by_cases c : free l = [] ∧ owns l ≠ []
  · rw [if_pos (decide_eq_true c), if_pos c, s_cons, s_asgLc, t, thn_ok, sthn_nxt]
    rfl
  · rw [decide_eq_false c, if_neg (by simp), if_neg c]
    rfl
abbrev s5 : S := .ite (.cmp .ne (.var 7) (.lst (.nil))) (.cons (.exp (.mth .append (.var 2) (.cons (.tup (.cons (.con (.str "move")) (.cons (.idx (.var 7) (.con (.int 0))) (.cons (.dpop (.var 3) (.idx (.var 7) (.con (.int 0)))) .nil)))) .nil))) (.cons (.cnt) .nil)) (.nil)
theorem st5n {h : Hh} : evS (F P (m + 1)) (G P) s5 (ro pd sp h0.length o4 o5 o6 (some (lstN [])) o8 o9) h = .nxt (ro pd sp h0.length o4 o5 o6 (some (lstN [])) o8 o9) h := by
  have e := ne_e (h := h) []
  simp -implicitDefEqProofs [e]
theorem st5c {r : Nat} {w : Wd} {t : List Nat} (a : Asc sp l) (hm : (r, w) ∈ l) (hz : rs.length + 1 ≤ 16777216) : evS (F P (m + 1)) (G P) s5 (ro pd sp h0.length o4 o5 o6 (some (lstN (r :: t))) o8 o9) (Hw h0 rs l) = .cnt (ro pd sp h0.length o4 o5 o6 (some (lstN (r :: t))) o8 o9) (Hw h0 (rs ++ [(r, w)]) (cut l r)) := by
  have e := ne_e (h := Hw h0 rs l) (r :: t)
  have e1 := hw_pop (h0 := h0) (rs := rs) a.nd hm
  have e2 := hw_app (h0 := h0) (rs := rs) (l := cut l r) (p := (r, w)) hz
  have e3 : D.tup [.str "move", .int r, w.d] = rowD (r, w) := rfl
  have e4 := hw_isl (h0 := h0) (rs := rs) (l := l)
  have e5 := hw_isd (h0 := h0) (rs := rs) (l := l)
  simp -implicitDefEqProofs [e, e1, e2, e3, e4, e5]
  rfl
abbrev s6 : S := .asg 9 (.bf .minD (.cons (.var 3) .nil))
theorem st6 {f : Nat} {w : Wd} (a : Asc sp ((f, w) :: l)) : evS (F P (m + 1)) (G P) s6 (ro pd sp h0.length o4 o5 o6 o7 o8 o9) (Hw h0 rs ((f, w) :: l)) = .nxt (ro pd sp h0.length o4 o5 o6 o7 o8 (some (.int f))) (Hw h0 rs ((f, w) :: l)) := by
  have e := hw_min (h0 := h0) (rs := rs) a
  simp -implicitDefEqProofs [e]
abbrev s7 : S := .exp (.mth .append (.var 2) (.cons (.tup (.cons (.con (.str "move")) (.cons (.var 1) (.cons (.tup (.cons (.con (.str "register")) (.cons (.var 9) .nil))) .nil)))) .nil))
theorem st7 {f : Nat} (hz : rs.length + 1 ≤ 16777216) : evS (F P (m + 1)) (G P) s7 (ro pd sp h0.length o4 o5 o6 o7 o8 (some (.int f))) (Hw h0 rs l) = .nxt (ro pd sp h0.length o4 o5 o6 o7 o8 (some (.int f))) (Hw h0 (rs ++ [(sp, ⟨.p, .reg f⟩)]) l) := by
  have e2 := hw_app (h0 := h0) (rs := rs) (l := l) (p := (sp, ⟨.p, .reg f⟩)) hz
  have e3 : D.tup [.str "move", .int sp, .tup [.str "register", .int f]] = rowD (sp, ⟨.p, .reg f⟩) := rfl
  have e4 := hw_isl (h0 := h0) (rs := rs) (l := l)
  simp -implicitDefEqProofs [e2, e3, e4]
abbrev fb : Ss := .cons (.ite (.cmp .eq (.call 0 (.cons (.idx (.var 3) (.var 4)) .nil)) (.var 9)) (.cons (.sto (.var 3) (.var 4) (.call 1 (.cons (.idx (.var 3) (.var 4)) (.cons (.var 1) .nil)))) .nil) (.nil)) .nil
abbrev s8 : S := .for_ (.v 4) (.ev (.bf .sorted (.cons (.var 3) .nil))) fb
theorem fb_ok {f : Nat} {l1 l2 : Mv} {p : Nat × Wd} (a : Asc sp (l1 ++ p :: l2)) (hl : (l1 ++ p :: l2).length < 64) : evSs (F P (m + 5)) (G P) fb (ro pd sp h0.length (some (.int p.1)) o5 o6 o7 o8 (some (.int f))) (Hw h0 rs (l1 ++ p :: l2)) =
    .nxt (ro pd sp h0.length (some (.int p.1)) o5 o6 o7 o8 (some (.int f))) (Hw h0 rs (l1 ++ brk1 sp f p :: l2)) := by
  obtain ⟨k, ⟨sh, w⟩⟩ := p
  have hm : (k, (⟨sh, w⟩ : Wd)) ∈ l1 ++ (k, ⟨sh, w⟩) :: l2 := by simp
  have d := hw_idx (h0 := h0) (rs := rs) a.nd hm
  have e := cmp_eqc (h := Hw h0 rs (l1 ++ (k, ⟨sh, w⟩) :: l2)) (Wd.cr ⟨sh, w⟩) f
  have c0 := cr_ok (P := P) (m := m + 4) (h := Hw h0 rs (l1 ++ (k, ⟨sh, w⟩) :: l2)) ⟨sh, w⟩
  by_cases c : Wd.cr ⟨sh, w⟩ = some f
  · have hw : w = .reg f := by
      cases w <;> simp [Wd.cr] at c
      rw [c]
    subst hw
    have e1 := wr_ok (P := P) (m := m + 1) (h := Hw h0 rs (l1 ++ (k, ⟨sh, .reg f⟩) :: l2)) sh f sp
    have e2 := hw_put (h0 := h0) (rs := rs) (l := l1 ++ (k, ⟨sh, .reg f⟩) :: l2) (k := k) (v := ⟨sh, .reg sp⟩) (List.mem_map.mpr ⟨_, hm, rfl⟩) (by omega)
    have e3 : ((l1 ++ (k, (⟨sh, .reg f⟩ : Wd)) :: l2).map fun p => if p.1 = k then (p.1, (⟨sh, .reg sp⟩ : Wd)) else p) = l1 ++ (k, ⟨sh, .reg sp⟩) :: l2 := by
      have nd := a.nd
      rw [List.map_append, List.map_cons, List.nodup_append] at nd
      obtain ⟨_, n2, n3⟩ := nd
      rw [List.nodup_cons] at n2
      rw [List.map_append, List.map_cons, if_pos rfl]
      have g : ∀ l' : Mv, k ∉ l'.map (·.1) → (l'.map fun p => if p.1 = k then (p.1, (⟨sh, .reg sp⟩ : Wd)) else p) = l' := by
        intro l' h
        conv => rhs; rw [← List.map_id l']
        refine List.map_congr_left fun p hp => if_neg fun q => h (List.mem_map.mpr ⟨p, hp, q⟩)
      rw [g l1 fun h => n3 k h k List.mem_cons_self rfl, g l2 n2.1]
    rw [e3] at e2
    have b : brk1 sp f (k, ⟨sh, .reg f⟩) = (k, ⟨sh, .reg sp⟩) := if_pos rfl
    rw [c] at e c0
    rw [b]
    simp -implicitDefEqProofs [d, c0, e, e1, e2]
  · have b : brk1 sp f (k, ⟨sh, w⟩) = (k, ⟨sh, w⟩) := if_neg c
    rw [b]
    simp -implicitDefEqProofs [d, c0, e, c]
theorem st8 {f : Nat} (a : Asc sp l) (hl : l.length < 64) : ∃ o4', evS (F P (m + 5)) (G P) s8 (ro pd sp h0.length o4 o5 o6 o7 o8 (some (.int f))) (Hw h0 rs l) = .nxt (ro pd sp h0.length o4' o5 o6 o7 o8 (some (.int f))) (Hw h0 rs (brk sp f l)) := by
  have key : ∀ q : Nat × Wd, (brk1 sp f q).1 = q.1 := fun q => by unfold brk1; split <;> rfl
  have lp : ∃ ρ' h', forLoop (fun _ => true) (.v 4) (evSs (F P (m + 5)) (G P) fb) (l.map fun p => .int p.1) (ro pd sp h0.length o4 o5 o6 o7 o8 (some (.int f))) (Hw h0 rs l) = .nxt ρ' h' ∧ ∃ o4' l1 l2, ρ' = ro pd sp h0.length o4' o5 o6 o7 o8 (some (.int f)) ∧ l = l1 ++ l2 ∧ (l.map fun p => D.int p.1) = (l1.map fun p => D.int p.1) ∧ h' = Hw h0 rs (l1.map (brk1 sp f) ++ l2) := by
    refine PW.forP (fun done ρ h => ∃ o4' l1 l2, ρ = ro pd sp h0.length o4' o5 o6 o7 o8 (some (.int f)) ∧ l = l1 ++ l2 ∧ done = (l1.map fun p => D.int p.1) ∧ h = Hw h0 rs (l1.map (brk1 sp f) ++ l2)) (all := l.map fun p => .int p.1) (fun d x r e ρ h => ?_) (done := []) rfl ⟨o4, [], l, rfl, rfl, rfl, rfl⟩
    rintro ⟨o4', l1, l2, rfl, el, rfl, rfl⟩
    rw [el, List.map_append] at e
    have e2 := List.append_cancel_left e
    cases l2 with
    | nil => cases e2
    | cons p l2 =>
      rw [List.map_cons] at e2
      injection e2 with ex er
      subst ex
      have a2 : Asc sp (l1.map (brk1 sp f) ++ p :: l2) := by
        have : (l1.map (brk1 sp f) ++ p :: l2).map (·.1) = l.map (·.1) := by
          rw [el, List.map_append, List.map_append, List.map_map]
          congr 1
          exact List.map_congr_left fun q _ => key q
        exact ⟨by rw [this]; exact a.lt, by rw [this]; exact a.sp⟩
      have len : (l1.map (brk1 sp f) ++ p :: l2).length < 64 := by rw [el] at hl; simpa using hl
      refine ⟨_, _, _, rfl, fb_ok (P := P) (m := m) (h0 := h0) (rs := rs) (pd := pd) (o5 := o5) (o6 := o6) (o7 := o7) (o8 := o8) (f := f) a2 len, some (.int p.1), l1 ++ [p], l2, rfl, by rw [el]; simp, by simp, by simp⟩
  obtain ⟨ρ', h', e, o4', l1, l2, rfl, el, e2, rfl⟩ := lp
  have nil2 : l2 = [] := by
    have := congrArg List.length e2
    rw [List.length_map, List.length_map, el, List.length_append] at this
    (exact List.length_eq_zero_iff.mp (by omega))
  subst nil2
  rw [List.append_nil] at el
  subst el
  rw [List.append_nil] at e
  refine ⟨o4', ?_⟩
  rw [s_for, i_ev]
  simp -implicitDefEqProofs [hw_sorted a hl, e]
/-- the loop's body -/
abbrev wB : Ss := .cons (.asg 6 e_moved_at_once_1) (.cons (.asgLc 7 e_moved_at_once_2) (.cons (.asgLc 8 e_moved_at_once_3) (.cons s4 (.cons s5 (.cons s6 (.cons s7 (.cons s8 .nil)))))))
theorem st123 {h0 : Hh} (a : Asc sp l) (hl : l.length < 64) (k : Ss) : evSs (F P (m + 1)) (G P) (.cons (.asg 6 e_moved_at_once_1) (.cons (.asgLc 7 e_moved_at_once_2) (.cons (.asgLc 8 e_moved_at_once_3) (.cons s4 k)))) (ro pd sp h0.length o4 o5 o6 o7 o8 o9) (Hw h0 rs l) =
    evSs (F P (m + 1)) (G P) k (ro pd sp h0.length o4 o5 (some (rdD l)) (some (lstN (ready l))) (some (lstN (owns l))) o9) (Hw h0 rs l) := by
  rw [s_cons, s_asg, ev_read hl, thn_ok, sthn_nxt]
  show evSs (F P (m + 1)) (G P) (.cons (.asgLc 7 e_moved_at_once_2) _) (ro pd sp h0.length o4 o5 (some (rdD l)) o7 o8 o9) (Hw h0 rs l) = _
  rw [s_cons, s_asgLc, ev_free a hl, thn_ok, sthn_nxt]
  show evSs (F P (m + 1)) (G P) (.cons (.asgLc 8 e_moved_at_once_3) _) (ro pd sp h0.length o4 o5 (some (rdD l)) (some (lstN (free l))) o8 o9) (Hw h0 rs l) = _
  rw [s_cons, s_asgLc, ev_own a hl, thn_ok, sthn_nxt]
  show evSs (F P (m + 1)) (G P) (.cons s4 _) (ro pd sp h0.length o4 o5 (some (rdD l)) (some (lstN (free l))) (some (lstN (owns l))) o9) (Hw h0 rs l) = _
  rw [s_cons, st4 hl, sthn_nxt]
theorem body_mv {r : Nat} {w : Wd} {t : List Nat} (a : Asc sp l) (hl : l.length < 64) (hr : ready l = r :: t) (hm : (r, w) ∈ l) (hz : rs.length + 1 ≤ 16777216) : ∃ o6' o7' o8', evSs (F P (m + 5)) (G P) wB (ro pd sp h0.length o4 o5 o6 o7 o8 o9) (Hw h0 rs l) = .cnt (ro pd sp h0.length o4 o5 o6' o7' o8' o9) (Hw h0 (rs ++ [(r, w)]) (cut l r)) := by
  refine ⟨some (rdD l), some (lstN (r :: t)), some (lstN (owns l)), ?_⟩
  rw [st123 (m := m + 4) a hl, hr, s_cons, st5c (m := m + 4) a hm hz, sthn_cnt]
theorem body_br {f : Nat} {w : Wd} (a : Asc sp ((f, w) :: l)) (hl : ((f, w) :: l).length < 64) (hr : ready ((f, w) :: l) = []) (hz : rs.length + 1 ≤ 16777216) : ∃ o4' o6' o7' o8' o9', evSs (F P (m + 5)) (G P) wB (ro pd sp h0.length o4 o5 o6 o7 o8 o9) (Hw h0 rs ((f, w) :: l)) = .nxt (ro pd sp h0.length o4' o5 o6' o7' o8' o9') (Hw h0 (rs ++ [(sp, ⟨.p, .reg f⟩)]) (brk sp f ((f, w) :: l))) := by
  obtain ⟨o4', e⟩ := st8 (P := P) (m := m) (h0 := h0) (rs := rs ++ [(sp, ⟨.p, .reg f⟩)]) (pd := pd) (o4 := o4) (o5 := o5) (o6 := some (rdD ((f, w) :: l))) (o7 := some (lstN [])) (o8 := some (lstN (owns ((f, w) :: l)))) (f := f) a hl
  refine ⟨o4', some (rdD ((f, w) :: l)), some (lstN []), some (lstN (owns ((f, w) :: l))), some (.int f), ?_⟩
  rw [st123 (m := m + 4) a hl, hr, s_cons, st5n (m := m + 4), sthn_nxt, s_cons, st6 (m := m + 4) a, sthn_nxt, s_cons, st7 (m := m + 4) hz, sthn_nxt, s_cons, e, sthn_nxt, s_nil]
theorem cond_ok : (evE (F P m) (G P) (.var 3)).t (ro pd sp h0.length o4 o5 o6 o7 o8 o9) (Hw h0 rs l) = .ok (!l.isEmpty) (Hw h0 rs l) := by
  have e := hw_tru (h0 := h0) (rs := rs) (l := l)
  rw [t_var]
  simp -implicitDefEqProofs [e]
end
theorem loop_ok {h0 : Hh} {l rs : Mv} {P m sp : Nat} {pd : D} (r : Run sp l rs) : ∀ {done : Mv} {o4 o5 o6 o7 o8 o9 : Option D} {n : Nat}, Asc sp l → l.length < 64 → done.length + rs.length ≤ 16777216 → rs.length < n →
    ∃ o4' o5' o6' o7' o8' o9', whlLoop (evE (F P (m + 5)) (G P) (.var 3)).t (evSs (F P (m + 5)) (G P) wB) n (ro pd sp h0.length o4 o5 o6 o7 o8 o9) (Hw h0 done l) = .nxt (ro pd sp h0.length o4' o5' o6' o7' o8' o9') (Hw h0 (done ++ rs) []) := by
  induction r with
  | nil =>
    intro done o4 o5 o6 o7 o8 o9 n _ _ _ hn
    obtain ⟨n, rfl⟩ : ∃ k, n = k + 1 := ⟨n - 1, by simp at hn; omega⟩
    refine ⟨o4, o5, o6, o7, o8, o9, ?_⟩
    unfold whlLoop
    rw [cond_ok, List.append_nil]
    rfl
  | @mv l r w t rs hr hm _ ih =>
    intro done o4 o5 o6 o7 o8 o9 n a hl hd hn
    simp only [List.length_cons] at hd hn
    obtain ⟨n, rfl⟩ : ∃ k, n = k + 1 := ⟨n - 1, by omega⟩
    obtain ⟨o6', o7', o8', e⟩ := body_mv (P := P) (m := m) (h0 := h0) (rs := done) (pd := pd) (o4 := o4) (o5 := o5) (o6 := o6) (o7 := o7) (o8 := o8) (o9 := o9) a hl hr hm (by omega)
    obtain ⟨p4, p5, p6, p7, p8, p9, e2⟩ := ih (done := done ++ [(r, w)]) (o4 := o4) (o5 := o5) (o6 := o6') (o7 := o7') (o8 := o8') (o9 := o9) (n := n) (a.cut r) (Nat.lt_of_le_of_lt (List.length_filter_le _ _) hl) (by simp; omega) (by omega)
    refine ⟨p4, p5, p6, p7, p8, p9, ?_⟩
    have ne : (!l.isEmpty) = true := by cases l <;> first | rfl | cases hm
    unfold whlLoop
    rw [cond_ok, ne, R.then_ok, if_pos rfl, e]
    dsimp only
    rw [e2, List.append_assoc]
    rfl
  | @br f w l rs hr _ ih =>
    intro done o4 o5 o6 o7 o8 o9 n a hl hd hn
    simp only [List.length_cons] at hd hn
    obtain ⟨n, rfl⟩ : ∃ k, n = k + 1 := ⟨n - 1, by omega⟩
    obtain ⟨o4', o6', o7', o8', o9', e⟩ := body_br (P := P) (m := m) (h0 := h0) (rs := done) (pd := pd) (o4 := o4) (o5 := o5) (o6 := o6) (o7 := o7) (o8 := o8) (o9 := o9) a hl hr (by omega)
    obtain ⟨p4, p5, p6, p7, p8, p9, e2⟩ := ih (done := done ++ [(sp, ⟨.p, .reg f⟩)]) (o4 := o4') (o5 := o5) (o6 := o6') (o7 := o7') (o8 := o8') (o9 := o9') (n := n) (a.brk f) (by rw [List.length_map]; exact hl) (by simp; omega) (by omega)
    refine ⟨p4, p5, p6, p7, p8, p9, ?_⟩
    have ne : (!((f, w) :: l).isEmpty) = true := rfl
    unfold whlLoop
    rw [cond_ok, ne, R.then_ok, if_pos rfl, e]
    dsimp only
    rw [e2, List.append_assoc]
    rfl
/-! ### the def -/
def pairD (p : Nat × Wd) : D := .tup [.int p.1, p.2.d]
def keep (p : Nat × Wd) : Bool := match p.2 with
  | ⟨.p, .reg s⟩ => decide (s ≠ p.1)
  | _ => true
theorem eq_self (p : Nat × Wd) {h : Hh} : opCmp .ne h p.2.d (.tup [.str "register", .int p.1]) = some (keep p) := by
  obtain ⟨k, ⟨sh, w⟩⟩ := p
  have e : (D.tup [.str "register", .int k]).shp = true := by kernel_rfl
  have g : ∀ w : Wd, w.d.shp = true := by
    rintro ⟨sh, w⟩
    cases sh <;> cases w <;> kernel_rfl
  have st : ∀ w : Wd, ∃ xs, w.d = .tup xs := by
    rintro ⟨sh, w⟩
    cases sh <;> cases w <;> exact ⟨_, rfl⟩
  have q : opEq h (Wd.d ⟨sh, w⟩) (.tup [.str "register", .int k]) = some ((Wd.d ⟨sh, w⟩).eqv (.tup [.str "register", .int k])) := by
    obtain ⟨xs, ex⟩ := st ⟨sh, w⟩
    have gx := g ⟨sh, w⟩
    rw [ex] at gx ⊢
    show (if D.cok (D.tup xs) (.tup [.str "register", .int k]) then some ((D.tup xs).eqv (.tup [.str "register", .int k])) else none) = _
    rw [cok_shp gx e]
    rfl
  show (opEq h (Wd.d ⟨sh, w⟩) (.tup [.str "register", .int k])).map (!·) = _
  rw [q]
  cases sh
  · cases w with
    | reg s =>
      by_cases c : s = k
      · subst c
        simp [Wd.d, shD, Ws.d, keep, D.eqv, D.eqvs]
      · have c2 : ((s : Int) == (k : Int)) = false := beq_eq_false_iff_ne.mpr (by omega)
        simp [Wd.d, shD, Ws.d, keep, D.eqv, D.eqvs, c, c2]
    | int n => simp [Wd.d, shD, Ws.d, keep, D.eqv, D.eqvs]
    | lab n => simp [Wd.d, shD, Ws.d, keep, D.eqv, D.eqvs]
  all_goals cases w <;> simp [Wd.d, shD, Ws.d, keep, D.eqv, D.eqvs]
theorem dc_ok {turn : D → Hh → R (Option (L2.Key × D))} {h : Hh} : ∀ (zs acc : Mv), ((acc ++ zs).map (·.1)).Nodup → (∀ z ∈ zs, turn (pairD z) h = .ok (if keep z then some (kv z) else none) h) → dcLoop (fun _ => true) turn (zs.map pairD) (kvs acc) h = .ok (kvs (acc ++ zs.filter keep)) h
  | [], acc, _, _ => by
    unfold dcLoop
    simp
  | z :: zs, acc, nd, t => by
    have nd2 : ((acc ++ zs).map (·.1)).Nodup := nd.sublist (List.Sublist.map _ (List.Sublist.append_left (List.sublist_cons_self z zs) acc))
    unfold dcLoop
    rw [List.map_cons]
    dsimp only
    rw [if_pos rfl, t z List.mem_cons_self]
    cases c : keep z with
    | false =>
      rw [if_neg (by simp), List.filter_cons_of_neg (by rw [c]; simp)]
      exact dc_ok zs acc nd2 fun y hy => t y (List.mem_cons_of_mem _ hy)
    | true =>
      rw [if_pos rfl, List.filter_cons_of_pos c]
      dsimp only
      have pd : putD (kvs acc) (kv z).1 (kv z).2 = kvs (acc ++ [z]) := by
        rw [PW.putD_new]
        · simp [kvs]
        · refine List.any_eq_false.mpr fun q hq e => ?_
          obtain ⟨y, hy, rfl⟩ := List.mem_map.mp hq
          have e := Sum.inl.inj (of_decide_eq_true e)
          rw [List.map_append, List.map_cons, List.nodup_append] at nd
          exact nd.2.2 y.1 (List.mem_map.mpr ⟨y, hy, rfl⟩) z.1 List.mem_cons_self (by omega)
      rw [pd]
      have := dc_ok (turn := turn) (h := h) zs (acc ++ [z]) (by rw [List.append_assoc]; exact nd) fun y hy => t y (List.mem_cons_of_mem _ hy)
      rw [this, List.append_assoc]
      rfl
theorem row_rlt (p : Nat × Wd) : (rowD p).rlt 0 = true := by
  show (true && (true && (p.2.d.rlt 0 && true))) = true
  rw [wd_rlt]; rfl
theorem rows_rlt : ∀ rs : Mv, D.rlts 0 (rs.map rowD) = true
  | [] => rfl
  | p :: rs => by show (D.rlt 0 (rowD p) && D.rlts 0 (rs.map rowD)) = true; rw [row_rlt, rows_rlt rs]; rfl
theorem moved_ok {h0 : Hh} {l0 rs : Mv} {P m sp : Nat} (a : Asc sp l0) (hl : l0.length < 64) (r : Run sp (l0.filter keep) rs) (hz : rs.length ≤ 1000) (hr : Hh.rlt h0 h0.length = true) :
    C P (m + 6) n_moved_at_once [.tup (l0.map pairD), .int sp] h0 = .ok (.lst (rs.map rowD)) h0 := by
  have a2 : Asc sp (l0.filter keep) := ⟨a.lt.sublist (List.filter_sublist.map _), fun h => by
    (obtain ⟨p, hp, e⟩ := List.mem_map.mp h)
    exact a.sp (List.mem_map.mpr ⟨p, (List.mem_filter.mp hp).1, e⟩)⟩
  have z : l0.length ≤ 16777216 := by omega
  obtain ⟨o4, o5, o6, o7, o8, o9, e⟩ := loop_ok (h0 := h0) (P := P) (m := m) (pd := .tup (l0.map pairD)) r (done := []) (o4 := none) (o5 := none) (o6 := none) (o7 := none) (o8 := none) (o9 := none) (n := wfuel) a2 (Nat.lt_of_le_of_lt (List.length_filter_le _ _) hl) (by simp; omega) (by rw [PW.wf]; omega)
  have d := dc_ok (turn := dcTurn (.tu [4, 5]) (evE (F P (m + 5)) (G P) c_moved_at_once_0) (evE (F P (m + 5)) (G P) k_moved_at_once_0) (evE (F P (m + 5)) (G P) x_moved_at_once_0) [some (.tup (l0.map pairD)), some (.int sp), some (.ref h0.length), none, none, none, none, none, none, none]) (h := h0 ++ [.lst []]) l0 [] a.nd fun p _ => by
    have q := eq_self p (h := h0 ++ [O.lst []])
    cases c : keep p with
    | true =>
      rw [c] at q
      simp -implicitDefEqProofs [dcTurn, Tg.put, setAll, pairD, q, dcEnd, D.key, kv]
    | false =>
      rw [c] at q
      simp -implicitDefEqProofs [dcTurn, Tg.put, setAll, pairD, q, dcEnd, D.key, kv]
  rw [List.nil_append] at d
  have d2 : dcLoop (fun _ => true) _ (l0.map pairD) [] _ = _ := d
  rw [C_moved_at_once]
  have hh : h0 ++ ([.lst []] ++ [.dct (kvs (l0.filter keep))]) = Hw h0 [] (l0.filter keep) := rfl
  have fin : finR true h0.length (.ret (.ref h0.length) (Hw h0 rs [])) = .ok (.lst (rs.map rowD)) h0 := by
    show finD true h0.length (.ref h0.length) (Hw h0 rs []) = _
    unfold finD
    have f : D.frz (Hw h0 rs []) h0.length 4 (.ref h0.length) = .lst (rs.map rowD) := by
      show (if h0.length < h0.length then D.ref h0.length else match (Hw h0 rs [])[h0.length]? with | some (.lst xs) => .lst (xs.map (D.frz (Hw h0 rs []) h0.length 3)) | _ => .ref h0.length) = _
      rw [if_neg (Nat.lt_irrefl _), hw_i]
      show D.lst ((rs.map rowD).map _) = _
      rw [List.map_map]
      congr 1
      exact List.map_congr_left fun p _ => PW.frz_of 3 _ (row_rlt p)
    have t : (Hw h0 rs []).take h0.length = h0 := by simp [Hw]
    have rl : (D.lst (rs.map rowD)).rlt h0.length = true := by
      refine PW.rlt_mono (Nat.zero_le _) _ ?_
      show D.rlts 0 (rs.map rowD) = true
      exact rows_rlt rs
    rw [if_pos rfl, f, t, hr, rl]
    rfl
  simp -implicitDefEqProofs [PV.newObj, PV.newDct, z, d2]
  refine Eq.trans (congrArg (fun q : RS => finR true h0.length (q.thn _ ⟨⟩)) e) ?_
  show finR true h0.length (.ret (.ref h0.length) (Hw h0 ([] ++ rs) [])) = _
  exact fin
end K51
end

section
set_option maxRecDepth 100000
set_option maxHeartbeats 1600000
/-! K51I: the heap behind the flow; a word wrapped. -/
namespace K51
open PySem PV
/-- no object leads on -/
def MO (more : Hh) : Prop := Hh.rlt more 0 = true
theorem MO.app {x y : Hh} (h1 : MO x) (h2 : MO y) : MO (x ++ y) := by
  unfold MO Hh.rlt at *
  rw [List.all_append, h1, h2]; rfl
theorem MO.one {xs : List D} (h : D.rlts 0 xs = true) : MO [.lst xs] := by
  show (D.rlts 0 xs && true) = true
  rw [h]; rfl
theorem MO.two {xs ys : List D} (h : D.rlts 0 xs = true) (h2 : D.rlts 0 ys = true) : MO [.lst xs, .lst ys] := by
  show (D.rlts 0 xs && (D.rlts 0 ys && true)) = true
  rw [h, h2]; rfl
theorem orlt_mono {n : Nat} {o : O} (h : O.rlt 0 o = true) : O.rlt n o = true := by
  cases o with
  | lst xs => exact PW.rlts_mono (Nat.zero_le _) xs h
  | dct kvs =>
    refine List.all_eq_true.mpr fun p hp => PW.rlt_mono (Nat.zero_le _) _ (List.all_eq_true.mp h p hp)
  | tb _ _ => rfl
theorem rlts_i : ∀ ks : List Nat, D.rlts 0 (ks.map iD) = true
  | [] => rfl
  | k :: ks => rlts_i ks
section
variable {P : Nat} {ns : List Int} {a b c : Int} {more xs : Hh}
theorem fl_len : (Fl P ns a b c more).length = more.length + 3 := rfl
theorem fl_app : Fl P ns a b c more ++ xs = Fl P ns a b c (more ++ xs) := rfl
theorem fl_rlt (h : MO more) {n : Nat} (hn : 3 ≤ n) : Hh.rlt (Fl P ns a b c more) n = true := by
  show (true && (D.rlts n (ns.map .int) && ((decide (1 < n) && true) && Hh.rlt more n))) = true
  have e : Hh.rlt more n = true := List.all_eq_true.mpr fun o ho => orlt_mono (List.all_eq_true.mp h o ho)
  rw [PW.rlts_ints, e, decide_eq_true (show 1 < n by omega)]
  rfl
theorem fl_at {k : Nat} : (Fl P ns a b c (more ++ xs))[more.length + 3 + k]? = xs[k]? := by
  rw [show more.length + 3 + k = more.length + k + 3 by omega]
  show (more ++ xs)[more.length + k]? = _
  rw [List.getElem?_append_right (by omega)]
  congr 1
  omega
theorem fl_set {k : Nat} {o : O} : (Fl P ns a b c (more ++ xs)).set (more.length + 3 + k) o = Fl P ns a b c (more ++ xs.set k o) := by
  rw [show more.length + 3 + k = more.length + k + 3 by omega]
  show O.tb P lamQ :: .lst (ns.map .int) :: .lst [.ref 1, .int a, .int b, .int c] :: (more ++ xs).set (more.length + k) o = _
  have : List.set (more ++ xs) (more.length + k) o = more ++ xs.set k o := by
    rw [List.set_append, if_neg (by omega)]
    congr 2
    omega
  rw [this]
  rfl
theorem fin_fl {ns0 : List Int} {a0 b0 c0 : Int} {d : D} (h : MO more) (hd : d.rlt 0 = true) : finR true (Fl P ns0 a0 b0 c0 more).length (.ret d (Fl P ns a b c (more ++ xs))) = .ok d (Fl P ns a b c more) := by
  show finD true (more.length + 3) d (Fl P ns a b c (more ++ xs)) = _
  unfold finD
  have t : (Fl P ns a b c (more ++ xs)).take (more.length + 3) = Fl P ns a b c more := by simp [Fl]
  rw [if_pos rfl, PW.frz_of 4 d hd, t, fl_rlt h (by omega), PW.rlt_mono (Nat.zero_le _) d hd]
  rfl
theorem ws_rlt (w : Ws) : w.d.rlt 0 = true := by cases w <;> rfl
abbrev ways (w : Ws) : List D := [w.d, w.d, w.d, shD w.d .fo, shD w.d .un, shD w.d .at_, shD w.d .hi]
theorem wrap_ok {m n : Nat} {w : Ws} (i : FI n a b c) (hn : n < 2147483647) (hm : MO more) : ∃ sh ns' a' b' c', C P (m + 2) n__law_wrapped [.ref 2, w.d] (Fl P ns a b c more) = .ok (Wd.d ⟨sh, w⟩) (Fl P ns' a' b' c' more) ∧ FI (n + 1) a' b' c' := by
  obtain ⟨r, ns', a', b', c', e, r0, r1, i'⟩ := draw_ok (P := P) (k := m) (ns := ns) (more := more ++ [.lst (ways w)]) (many := 7) i hn ⟨by decide, by decide⟩
  rw [← fl_app] at e
  have ap := PW.last_app (base := Fl P ns a b c more) (xs := [w.d, w.d, w.d, shD w.d .fo, shD w.d .un, shD w.d .at_]) (x := shD w.d .hi) (Nat.le_of_ble_eq_true rfl)
  have il := PW.last_isL (base := Fl P ns a b c more) (xs := [w.d, w.d, w.d, shD w.d .fo, shD w.d .un, shD w.d .at_])
  have ap2 : mthOp .append (.ref (Fl P ns a b c more).length) [shD w.d .hi] (Fl P ns a b c more ++ [.lst [w.d, w.d, w.d, shD w.d .fo, shD w.d .un, shD w.d .at_]]) = .ok .non (Fl P ns a b c more ++ [.lst (ways w)]) := ap
  have lk : (Fl P ns' a' b' c' (more ++ [O.lst (ways w)]))[(Fl P ns a b c more).length]? = some (.lst (ways w)) := fl_at (k := 0)
  have pick : ∀ sh, L2.atI (ways w) r = some (Wd.d ⟨sh, w⟩) → C P (m + 2) n__law_wrapped [.ref 2, w.d] (Fl P ns a b c more) = .ok (Wd.d ⟨sh, w⟩) (Fl P ns' a' b' c' more) := by
    intro sh hx
    have ix := PW.idx_lref lk r
    rw [hx] at ix
    rw [C__law_wrapped]
    have fin := fin_fl (P := P) (ns := ns') (a := a') (b := b') (c := c') (xs := [.lst (ways w)]) (ns0 := ns) (a0 := a) (b0 := b) (c0 := c) hm (wd_rlt ⟨sh, w⟩)
    have f1 : D.tup [.str "fold", .tup [.str "rec", .tup [.str "cell", .tup [.str "var", .int 0]]], w.d] = shD w.d .fo := rfl
    have f2 : D.tup [.str "unfold", w.d] = shD w.d .un := rfl
    have f3 : D.tup [.str "at", w.d, .tup [.tup [.str "int"], .tup [.str "rec", .tup [.str "cell", .tup [.str "var", .int 0]]]]] = shD w.d .at_ := rfl
    have f4 : D.tup [.str "hide", .tup [.str "int"], shD w.d .un, .tup [.str "some", .tup [.str "var", .int 0]]] = shD w.d .hi := rfl
    simp -implicitDefEqProofs [PV.newObj, f1, f2, f3, f4, il, ap2, e, ix, fin]
  have cs : r = 0 ∨ r = 1 ∨ r = 2 ∨ r = 3 ∨ r = 4 ∨ r = 5 ∨ r = 6 := by omega
  rcases cs with rfl | rfl | rfl | rfl | rfl | rfl | rfl
  · exact ⟨.p, ns', a', b', c', pick .p rfl, i'⟩
  · exact ⟨.p, ns', a', b', c', pick .p rfl, i'⟩
  · exact ⟨.p, ns', a', b', c', pick .p rfl, i'⟩
  · exact ⟨.fo, ns', a', b', c', pick .fo rfl, i'⟩
  · exact ⟨.un, ns', a', b', c', pick .un rfl, i'⟩
  · exact ⟨.at_, ns', a', b', c', pick .at_ rfl, i'⟩
  · exact ⟨.hi, ns', a', b', c', pick .hi rfl, i'⟩
end
end K51
end

section
set_option maxRecDepth 100000
set_option maxHeartbeats 1600000
/-! K51J: the places dealt. -/
namespace K51
open PySem PV
theorem erase_map {α β : Type} (f : α → β) : ∀ (l : List α) (j : Nat), (l.map f).eraseIdx j = (l.eraseIdx j).map f
  | [], _ => rfl
  | _ :: _, 0 => rfl
  | x :: l, j + 1 => by simp [erase_map f l j]
theorem perm_erase {α : Type} : ∀ {l : List α} {j : Nat} {x : α}, l[j]? = some x → l.Perm (x :: l.eraseIdx j)
  | [], _, _, h => by simp at h
  | y :: l, 0, x, h => by simp at h; subst h; exact List.Perm.refl _
  | y :: l, j + 1, x, h => by
    have h : l[j]? = some x := by simpa using h
    exact ((perm_erase h).cons y).trans (List.Perm.swap _ _ _)
theorem ixN_nat {n j : Nat} (hj : j < n) : L2.ixN n (j : Int) = some j := by
  unfold L2.ixN
  (rw [if_pos (by omega), if_pos (by omega)])
  simp
/-- drawn without putting back -/
structure Dl (ss ls : List Nat) : Prop where
  nd : (ss ++ ls).Nodup
  lt : ∀ x ∈ ss ++ ls, x < 30
  len : ss.length + ls.length = 30
theorem Dl.step {ss ls : List Nat} (d : Dl ss ls) {j x : Nat} (h : ls[j]? = some x) : Dl (ss ++ [x]) (ls.eraseIdx j) := by
  obtain ⟨hj, e⟩ := List.getElem?_eq_some_iff.mp h
  have pe : ls.Perm (x :: ls.eraseIdx j) := by
    exact perm_erase h
  have p : ((ss ++ [x]) ++ ls.eraseIdx j).Perm (ss ++ ls) := by
    rw [List.append_assoc]
    exact (List.Perm.append_left ss pe).symm
  refine ⟨p.nodup_iff.mpr d.nd, fun y hy => d.lt y (p.mem_iff.mp hy), ?_⟩
  have := d.len
  rw [List.length_append, List.length_eraseIdx_of_lt hj]
  (simp only [List.length_cons, List.length_nil])
  omega
theorem dl0 : Dl [] (List.range 30) := ⟨by simpa using List.nodup_range, fun x hx => by simpa using hx, by simp⟩
section
variable {P : Nat} {ns : List Int} {a b c : Int} {more xs : Hh} {ss ls : List Nat} {h : Hh}
theorem mt_popAt {i j x : Nat} {ks : List Nat} (e : h[i]? = some (.lst (ks.map iD))) (hj : ks[j]? = some x) : mthOp .popAt (.ref i) [.int j] h = .ok (iD x) (h.set i (.lst ((ks.eraseIdx j).map iD))) := by
  show mthRef .popAt i [.int j] h = _
  unfold mthRef
  rw [e]
  show (match mtPopAt (ks.map iD) [.int j] with | some p => R.ok p.1 _ | none => R.bad) = _
  obtain ⟨hl, _⟩ := List.getElem?_eq_some_iff.mp hj
  have : mtPopAt (ks.map iD) [.int j] = some (iD x, (ks.eraseIdx j).map iD) := by
    show (L2.ixN (ks.map iD).length (j : Int)).bind _ = _
    have q : L2.ixN (ks.map iD).length (j : Int) = some j := ixN_nat (by rw [List.length_map]; exact hl)
    rw [q, Option.bind_some, List.getElem?_map, hj, erase_map]
    rfl
  rw [this]
abbrev pe (n0 : Nat) (o3 o4 o5 o6 o7 o8 o9 : Option D) : PV.Env := [some (.ref 2), some (.ref n0), some (.ref (n0 + 1)), o3, o4, o5, o6, o7, o8, o9]
abbrev p1 : S := .unp [1, 2] (.tup (.cons (.new (.lst (.nil))) (.cons (.new (.lrg (.con (.int 30)))) .nil)))
theorem l30 : rngD 0 30 = (List.range 30).map iD := by kernel_rfl
theorem pst1 {m : Nat} : evS (F P m) (G P) p1 [some (.ref 2), none, none, none, none, none, none, none, none, none] (Fl P ns a b c more) = .nxt (pe (more.length + 3) none none none none none none none) (Fl P ns a b c (more ++ [.lst [], .lst ((List.range 30).map iD)])) := by
  have e : lrgOp (.int 30) = some (.lst ((List.range 30).map iD)) := by
    show (if (0 : Int) ≤ 30 ∧ (30 : Int) ≤ 16777216 then some (D.lst (rngD 0 30)) else none) = _
    rw [if_pos ⟨by decide, by decide⟩, l30]
  have l1 : (Fl P ns a b c more ++ [O.lst []]).length = more.length + 3 + 1 := by simp [Fl]
  simp -implicitDefEqProofs [PV.newObj, e, Tg.put, setAll, fl_len, l1, fl_app]
  rw [show more.length + 1 + 3 = more.length + 3 + 1 by omega]
  rfl
abbrev p2b : Ss := .cons (.exp (.mth .append (.var 1) (.cons (.mth .popAt (.var 2) (.cons (.call 4 (.cons (.var 0) (.cons (.bf .len (.cons (.var 2) .nil)) .nil))) .nil)) .nil))) .nil
theorem two_0 : (Fl P ns a b c (more ++ [.lst (ss.map iD), .lst (ls.map iD)]))[more.length + 3]? = some (.lst (ss.map iD)) := fl_at (k := 0)
theorem two_1 : (Fl P ns a b c (more ++ [.lst (ss.map iD), .lst (ls.map iD)]))[more.length + 3 + 1]? = some (.lst (ls.map iD)) := fl_at (k := 1)
theorem pst2 {m n : Nat} {o3 : Option D} (i : FI n a b c) (hn : n < 2147483647) (d : Dl ss ls) (hs : ss.length < 28) : ∃ x ss' ls' ns' a' b' c', evSs (F P (m + 1)) (G P) p2b (pe (more.length + 3) o3 none none none none none none) (Fl P ns a b c (more ++ [.lst (ss.map iD), .lst (ls.map iD)])) =
      .nxt (pe (more.length + 3) o3 none none none none none none) (Fl P ns' a' b' c' (more ++ [.lst (ss'.map iD), .lst (ls'.map iD)])) ∧ ss' = ss ++ [x] ∧ Dl ss' ls' ∧ FI (n + 1) a' b' c' := by
  have len := d.len
  obtain ⟨r, ns', a', b', c', e, r0, r1, i'⟩ := draw_ok (P := P) (k := m) (ns := ns) (more := more ++ [.lst (ss.map iD), .lst (ls.map iD)]) (many := (ls.length : Int)) i hn ⟨by omega, by omega⟩
  obtain ⟨j, rfl⟩ := Int.eq_ofNat_of_zero_le r0
  have hj : j < ls.length := by omega
  have ej := List.getElem?_eq_getElem hj
  have pp := mt_popAt (two_1 (P := P) (ns := ns') (a := a') (b := b') (c := c') (more := more) (ss := ss) (ls := ls)) ej
  rw [fl_set (k := 1)] at pp
  have pp : mthOp .popAt (.ref (more.length + 3 + 1)) [.int j] (Fl P ns' a' b' c' (more ++ [.lst (ss.map iD), .lst (ls.map iD)])) = .ok (iD ls[j]) (Fl P ns' a' b' c' (more ++ [.lst (ss.map iD), .lst ((ls.eraseIdx j).map iD)])) := pp
  have ap := PW.mt_app (x := iD ls[j]) (two_0 (P := P) (ns := ns') (a := a') (b := b') (c := c') (more := more) (ss := ss) (ls := ls.eraseIdx j)) (by rw [List.length_map]; omega)
  have e0 : (Fl P ns' a' b' c' (more ++ [.lst (ss.map iD), .lst ((ls.eraseIdx j).map iD)])).set (more.length + 3) (.lst (ss.map iD ++ [iD ls[j]])) = Fl P ns' a' b' c' (more ++ [.lst ((ss ++ [ls[j]]).map iD), .lst ((ls.eraseIdx j).map iD)]) := by
    have := fl_set (P := P) (ns := ns') (a := a') (b := b') (c := c') (more := more) (xs := [.lst (ss.map iD), .lst ((ls.eraseIdx j).map iD)]) (k := 0) (o := .lst (ss.map iD ++ [iD ls[j]]))
    rw [List.map_append]
    exact this
  rw [e0] at ap
  have il1 := PW.is_l (two_0 (P := P) (ns := ns) (a := a) (b := b) (c := c) (more := more) (ss := ss) (ls := ls))
  have il2 := PW.is_l (two_1 (P := P) (ns := ns) (a := a) (b := b) (c := c) (more := more) (ss := ss) (ls := ls))
  have ln := PW.len_lref (two_1 (P := P) (ns := ns) (a := a) (b := b) (c := c) (more := more) (ss := ss) (ls := ls))
  rw [List.length_map] at ln
  refine ⟨ls[j], ss ++ [ls[j]], ls.eraseIdx j, ns', a', b', c', ?_, rfl, d.step ej, i'⟩
  simp -implicitDefEqProofs [il1, il2, ln, e, pp, ap]
end
end K51
end

section
set_option maxRecDepth 100000
set_option maxHeartbeats 1600000
/-! K51K: the words dealt to the places. -/
namespace K51
open PySem PV
theorem FI.up {n n' : Nat} {a b c : Int} (i : FI n a b c) (h : n ≤ n') : FI n' a b c := ⟨i.a0, i.b0, i.b1, i.c0, by have := i.c1; omega⟩
theorem lcFg {γ : Type} {good : Hh → Bool} {turn : D → Hh → R (Option D)} {h : Hh} (hg : good h = true) (f : γ → D) (g : γ → Option D) : ∀ {zs : List γ} {acc : List D}, (∀ z ∈ zs, turn (f z) h = .ok (g z) h) → lcLoop good turn (zs.map f) acc h = .ok (.lst (acc ++ zs.filterMap g)) h
  | [], acc, _ => by unfold lcLoop; simp [hg]
  | z :: zs, acc, p => by
    rw [List.map_cons]
    unfold lcLoop
    rw [if_pos hg, p z List.mem_cons_self]
    have ih := fun acc => lcFg hg f g (zs := zs) (acc := acc) fun y hy => p y (List.mem_cons_of_mem _ hy)
    cases e : g z with
    | none => dsimp only; rw [ih, List.filterMap_cons_none e]
    | some y => dsimp only; rw [ih, List.filterMap_cons_some e]; simp
theorem sames_i : ∀ ks : List Nat, D.sames (ks.map iD) (ks.map iD) = true
  | [] => rfl
  | k :: ks => by
    show (((k : Int) == (k : Int)) && D.sames (ks.map iD) (ks.map iD)) = true
    rw [sames_i ks]; simp
theorem atI_in {ks : List Nat} {i : Int} (h0 : -(ks.length : Int) ≤ i) (h1 : i < ks.length) : ∃ x ∈ ks, L2.atI (ks.map iD) i = some (iD x) := by
  have gen : ∀ j : Nat, j < ks.length → L2.ixN (ks.map iD).length i = some j → ∃ x ∈ ks, L2.atI (ks.map iD) i = some (iD x) := by
    intro j hj e
    refine ⟨ks[j], List.getElem_mem hj, ?_⟩
    unfold L2.atI
    rw [e, Option.bind_some, List.getElem?_map, List.getElem?_eq_getElem hj]
    rfl
  by_cases c : 0 ≤ i
  · refine gen i.toNat (by omega) ?_
    unfold L2.ixN
    rw [if_pos c, if_pos (by rw [List.length_map]; exact h1)]
  · refine gen (i + ks.length).toNat (by omega) ?_
    unfold L2.ixN
    rw [if_neg c, if_pos (by rw [List.length_map]; exact h0), List.length_map]
section
variable {P : Nat} {ns : List Int} {a b c : Int} {more xs : Hh} {ss ls : List Nat} {h : Hh} {m n : Nat}
abbrev p2 : S := .for_ (.v 3) (.rng (.call 4 (.cons (.var 0) (.cons (.idx (.lst (.cons (.con (.int 11)) (.cons (.con (.int 29)) .nil))) (.call 4 (.cons (.var 0) (.cons (.con (.int 2)) .nil)))) .nil)))) p2b
theorem pst2' (i : FI n a b c) (hn : n < 2147480000) : ∃ o3 ss ls ns' a' b' c', evS (F P (m + 1)) (G P) p2 (pe (more.length + 3) none none none none none none none) (Fl P ns a b c (more ++ [.lst [], .lst ((List.range 30).map iD)])) =
      .nxt (pe (more.length + 3) o3 none none none none none none) (Fl P ns' a' b' c' (more ++ [.lst (ss.map iD), .lst (ls.map iD)])) ∧ Dl ss ls ∧ ss.length ≤ 28 ∧ FI (n + 30) a' b' c' := by
  obtain ⟨r1, ns1, a1, b1, c1, e1, h0, h1, i1⟩ := draw_ok (P := P) (k := m) (ns := ns) (more := more ++ [.lst [], .lst ((List.range 30).map iD)]) (many := 2) i (by omega) ⟨by decide, by decide⟩
  have mid : ∃ many : Int, L2.atI [D.int 11, D.int 29] r1 = some (.int many) ∧ 0 < many ∧ many ≤ 29 := by
    have : r1 = 0 ∨ r1 = 1 := by omega
    rcases this with rfl | rfl
    · exact ⟨11, rfl, by decide, by decide⟩
    · exact ⟨29, rfl, by decide, by decide⟩
  obtain ⟨many, em, m0, m1⟩ := mid
  obtain ⟨r2, ns2, a2, b2, c2, e2, g0, g1, i2⟩ := draw_ok (P := P) (k := m) (ns := ns1) (more := more ++ [.lst [], .lst ((List.range 30).map iD)]) (many := many) i1 (by omega) ⟨m0, by omega⟩
  obtain ⟨r, rfl⟩ := Int.eq_ofNat_of_zero_le g0
  have hr : r < 29 := by omega
  have lp : ∃ ρ' h', forLoop (fun _ => true) (.v 3) (evSs (F P (m + 1)) (G P) p2b) ((List.range r).map fun k : Nat => D.int (k : Int)) (pe (more.length + 3) none none none none none none none) (Fl P ns2 a2 b2 c2 (more ++ [.lst [], .lst ((List.range 30).map iD)])) = .nxt ρ' h' ∧
      ∃ o3 ss ls ns' a' b' c', ρ' = pe (more.length + 3) o3 none none none none none none ∧ h' = Fl P ns' a' b' c' (more ++ [.lst (ss.map iD), .lst (ls.map iD)]) ∧ Dl ss ls ∧ ss.length = ((List.range r).map fun k : Nat => D.int (k : Int)).length ∧ FI (n + 2 + ((List.range r).map fun k : Nat => D.int (k : Int)).length) a' b' c' := by
    refine PW.forP (fun done ρ h => ∃ o3 ss ls ns' a' b' c', ρ = pe (more.length + 3) o3 none none none none none none ∧ h = Fl P ns' a' b' c' (more ++ [.lst (ss.map iD), .lst (ls.map iD)]) ∧ Dl ss ls ∧ ss.length = done.length ∧ FI (n + 2 + done.length) a' b' c') (fun d x t e ρ h => ?_) (done := []) rfl ⟨none, [], List.range 30, ns2, a2, b2, c2, rfl, rfl, dl0, rfl, i2⟩
    rintro ⟨o3, ss, ls, ns', a', b', c', rfl, rfl, dl, hs, i'⟩
    have hd : d.length < r := by
      have := congrArg List.length e
      simp at this
      omega
    obtain ⟨y, ss', ls', ns3, a3, b3, c3, e3, hss, dl', i3⟩ := pst2 (P := P) (m := m) (ns := ns') (more := more) (o3 := some x) i' (by omega) dl (by omega)
    exact ⟨_, _, _, rfl, e3, some x, ss', ls', ns3, a3, b3, c3, rfl, rfl, dl', by rw [hss]; simp [hs], by rw [List.length_append]; exact i3⟩
  obtain ⟨ρ', h', el, o3, ss, ls, ns', a', b', c', rfl, rfl, dl, hs, i'⟩ := lp
  rw [List.length_map, List.length_range] at hs i'
  refine ⟨o3, ss, ls, ns', a', b', c', ?_, dl, by omega, i'.up (by omega)⟩
  have rg : rngOk 0 (r : Int) = true := PW.rng_ok ⟨by decide, by decide⟩ ⟨by omega, by omega⟩
  simp -implicitDefEqProofs [e1, em, e2, rg, PW.rngD_nat, el]
abbrev p3 : S := .unp [4, 5] (.tup (.cons (.idx (.var 2) (.call 4 (.cons (.var 0) (.cons (.bf .len (.cons (.var 2) .nil)) .nil)))) (.cons (.new (.lst (.nil))) .nil)))
theorem pst3 {o3 : Option D} (i : FI n a b c) (hn : n < 2147483647) (d : Dl ss ls) (hs : ss.length ≤ 28) : ∃ x ns' a' b' c', evS (F P (m + 1)) (G P) p3 (pe (more.length + 3) o3 none none none none none none) (Fl P ns a b c (more ++ [.lst (ss.map iD), .lst (ls.map iD)])) =
      .nxt (pe (more.length + 3) o3 (some (iD x)) (some (.ref (more.length + 3 + 2))) none none none none) (Fl P ns' a' b' c' (more ++ [.lst (ss.map iD), .lst (ls.map iD), .lst []])) ∧ x ∈ ls ∧ FI (n + 1) a' b' c' := by
  have len := d.len
  obtain ⟨r, ns', a', b', c', e, r0, r1, i'⟩ := draw_ok (P := P) (k := m) (ns := ns) (more := more ++ [.lst (ss.map iD), .lst (ls.map iD)]) (many := (ls.length : Int)) i hn ⟨by omega, by omega⟩
  obtain ⟨x, hx, ex⟩ := atI_in (ks := ls) (i := r) (by omega) r1
  have ix := PW.idx_lref (two_1 (P := P) (ns := ns') (a := a') (b := b') (c := c') (more := more) (ss := ss) (ls := ls)) r
  rw [ex] at ix
  have ln := PW.len_lref (two_1 (P := P) (ns := ns) (a := a) (b := b) (c := c) (more := more) (ss := ss) (ls := ls))
  rw [List.length_map] at ln
  refine ⟨x, ns', a', b', c', ?_, hx, i'⟩
  have l2 : (Fl P ns' a' b' c' (more ++ [O.lst (ss.map iD), O.lst (ls.map iD)])).length = more.length + 3 + 2 := by simp [Fl]
  simp -implicitDefEqProofs [ln, e, ix, PV.newObj, Tg.put, setAll, l2, fl_app]
  rfl
/-- three objects behind -/
abbrev H3 (P : Nat) (ns : List Int) (a b c : Int) (more : Hh) (ss ls : List Nat) (fs : Mv) : Hh := Fl P ns a b c (more ++ [.lst (ss.map iD), .lst (ls.map iD), .lst (fs.map pairD)])
variable {fs : Mv}
theorem h3_0 : (H3 P ns a b c more ss ls fs)[more.length + 3]? = some (.lst (ss.map iD)) := fl_at (k := 0)
theorem h3_1 : (H3 P ns a b c more ss ls fs)[more.length + 3 + 1]? = some (.lst (ls.map iD)) := fl_at (k := 1)
theorem h3_2 : (H3 P ns a b c more ss ls fs)[more.length + 3 + 2]? = some (.lst (fs.map pairD)) := fl_at (k := 2)
theorem h3_app {p : Nat × Wd} (hz : fs.length + 1 ≤ 16777216) : mthOp .append (.ref (more.length + 3 + 2)) [pairD p] (H3 P ns a b c more ss ls fs) = .ok .non (H3 P ns a b c more ss ls (fs ++ [p])) := by
  rw [PW.mt_app h3_2 (by rw [List.length_map]; exact hz)]
  have := fl_set (P := P) (ns := ns) (a := a) (b := b) (c := c) (more := more) (xs := [.lst (ss.map iD), .lst (ls.map iD), .lst (fs.map pairD)]) (k := 2) (o := .lst (fs.map pairD ++ [pairD p]))
  refine congrArg (R.ok D.non) ?_
  unfold H3
  rw [List.map_append]
  exact this
theorem one_ok {n0 x : Nat} {o3 o5 o6 o7 o8 o9 : Option D} (e : h[n0 + 1]? = some (.lst (ls.map iD))) (hl : ls.length ≤ 30) : (evE (F P m) (G P) e__law_pending_0).v (pe n0 o3 (some (iD x)) o5 o6 o7 o8 o9) h = .ok (.lst ((ls.filter fun y => decide (y ≠ x)).map iD)) h := by
  have sr : (D.ref (n0 + 1)).src h = some ⟨ls.map iD, some (n0 + 1)⟩ := by
    show (match h[n0 + 1]? with | some (.lst xs) => some (Src.mk xs (some (n0 + 1))) | _ => none) = _
    rw [e]
  have gd : (Src.mk (ls.map iD) (some (n0 + 1))).good h = true := by
    show (match h[n0 + 1]? with | some (.lst xs) => D.sames xs (ls.map iD) | _ => false) = true
    rw [e]
    exact sames_i ls
  have t := lcFg (acc := []) (zs := ls) (turn := lcTurn (.v 8) (evE (F P m) (G P) c__law_pending_0) (evE (F P m) (G P) x__law_pending_0) (pe n0 o3 (some (iD x)) o5 o6 o7 o8 o9)) gd iD (fun y => if decide (y ≠ x) = true then some (iD y) else none) fun y _ => by
    by_cases q : y = x
    · subst q
      simp -implicitDefEqProofs [lcTurn, Tg.put]
    · have q2 : ((y : Int) == (x : Int)) = false := beq_eq_false_iff_ne.mpr (by omega)
      simp -implicitDefEqProofs [lcTurn, Tg.put, q, q2]
  rw [fm_if, List.nil_append] at t
  have z : ls.length ≤ 16777216 := by omega
  rw [v_lcc, i_ev]
  simp -implicitDefEqProofs [sr, z, t]
end
end K51
end

section
set_option maxRecDepth 100000
set_option maxHeartbeats 3200000
/-! K51L: one place's word. -/
namespace K51
open PySem PV
def WsOk : Ws → Prop
  | .reg s => s < 30
  | .int n => -30 ≤ n ∧ n ≤ 30
  | .lab n => 0 ≤ n ∧ n ≤ 30
theorem pair_rlt (p : Nat × Wd) : (pairD p).rlt 0 = true := by
  show (true && (p.2.d.rlt 0 && true)) = true
  rw [wd_rlt]; rfl
theorem pairs_rlt : ∀ l : Mv, D.rlts 0 (l.map pairD) = true
  | [] => rfl
  | p :: l => by show (D.rlt 0 (pairD p) && D.rlts 0 (l.map pairD)) = true; rw [pair_rlt, pairs_rlt l]; rfl
section
variable {P : Nat} {ns : List Int} {a b c : Int} {more xs : Hh} {ss ls : List Nat} {h : Hh} {m n x k : Nat} {fs : Mv} {o3 o7 o8 o9 : Option D}
theorem mo3 (hm : MO more) : MO (more ++ [.lst (ss.map iD), .lst (ls.map iD), .lst (fs.map pairD)]) := by
  refine hm.app ?_
  show (D.rlts 0 (ss.map iD) && (D.rlts 0 (ls.map iD) && (D.rlts 0 (fs.map pairD) && true))) = true
  rw [rlts_i, rlts_i, pairs_rlt]; rfl
abbrev q1 : S := .asg 7 (.lst (.cons (.idx (.var 1) (.bin .sub (.var 6) (.con (.int 1)))) (.cons (.idx (.var 1) (.call 4 (.cons (.var 0) (.cons (.bf .len (.cons (.var 1) .nil)) .nil)))) (.cons (.idx (e__law_pending_0) (.con (.int 0))) (.cons (.idx (.var 1) (.var 6)) .nil)))))
abbrev q2 : S := .asg 9 (.tup (.cons (.con (.str "register")) (.cons (.idx (.var 7) (.call 4 (.cons (.var 0) (.cons (.con (.int 4)) .nil)))) .nil)))
abbrev q3 : S := .ite (.cmp .eq (.call 4 (.cons (.var 0) (.cons (.con (.int 6)) .nil))) (.con (.int 0))) (.cons (.asg 9 (.idx (.lst (.cons (.tup (.cons (.con (.str "int")) (.cons (.bin .sub (.con (.int 5)) (.var 6)) .nil))) (.cons (.tup (.cons (.con (.str "label")) (.cons (.var 6) .nil))) .nil))) (.call 4 (.cons (.var 0) (.cons (.con (.int 2)) .nil))))) .nil) (.nil)
abbrev q4 : S := .exp (.mth .append (.var 5) (.cons (.tup (.cons (.idx (.var 1) (.var 6)) (.cons (.call 7 (.cons (.var 0) (.cons (.var 9) .nil))) .nil))) .nil))
abbrev p4b : Ss := .cons q1 (.cons q2 (.cons q3 (.cons q4 .nil)))
abbrev pk (n0 x k : Nat) (o3 o7 o8 o9 : Option D) : PV.Env := pe n0 o3 (some (iD x)) (some (.ref (n0 + 2))) (some (.int k)) o7 o8 o9
theorem q1_ok (i : FI n a b c) (hn : n < 2147483647) (d : Dl ss ls) (hs : ss.length ≤ 28) (hx : x ∈ ls) (hk : k < ss.length) : ∃ s1 s2 s3 s4 ns' a' b' c', evS (F P (m + 1)) (G P) q1 (pk (more.length + 3) x k o3 o7 o8 o9) (H3 P ns a b c more ss ls fs) =
      .nxt (pk (more.length + 3) x k o3 (some (.lst ([s1, s2, s3, s4].map iD))) o8 o9) (H3 P ns' a' b' c' more ss ls fs) ∧ (∀ s ∈ [s1, s2, s3, s4], s < 30) ∧ FI (n + 1) a' b' c' := by
  have len := d.len
  obtain ⟨r, ns', a', b', c', e, r0, r1, i'⟩ := draw_ok (P := P) (k := m) (ns := ns) (more := more ++ [.lst (ss.map iD), .lst (ls.map iD), .lst (fs.map pairD)]) (many := (ss.length : Int)) i hn ⟨by omega, by omega⟩
  obtain ⟨s1, h1, e1⟩ := atI_in (ks := ss) (i := (k : Int) - 1) (by omega) (by omega)
  obtain ⟨s2, h2, e2⟩ := atI_in (ks := ss) (i := r) (by omega) r1
  obtain ⟨s4, h4, e4⟩ := atI_in (ks := ss) (i := (k : Int)) (by omega) (by omega)
  have i1 := PW.idx_lref (h3_0 (P := P) (ns := ns) (a := a) (b := b) (c := c) (more := more) (ss := ss) (ls := ls) (fs := fs)) ((k : Int) - 1)
  have i2 := PW.idx_lref (h3_0 (P := P) (ns := ns') (a := a') (b := b') (c := c') (more := more) (ss := ss) (ls := ls) (fs := fs)) r
  have i4 := PW.idx_lref (h3_0 (P := P) (ns := ns') (a := a') (b := b') (c := c') (more := more) (ss := ss) (ls := ls) (fs := fs)) (k : Int)
  rw [e1] at i1
  rw [e2] at i2
  rw [e4] at i4
  have ln := PW.len_lref (h3_0 (P := P) (ns := ns) (a := a) (b := b) (c := c) (more := more) (ss := ss) (ls := ls) (fs := fs))
  rw [List.length_map] at ln
  have one := one_ok (P := P) (m := m + 1) (x := x) (o3 := o3) (o5 := some (.ref (more.length + 3 + 2))) (o6 := some (.int k)) (o7 := o7) (o8 := o8) (o9 := o9) (h3_1 (P := P) (ns := ns') (a := a') (b := b') (c := c') (more := more) (ss := ss) (ls := ls) (fs := fs)) (by omega)
  cases hf : ls.filter (fun y => decide (y ≠ x)) with
  | nil =>
    exfalso
    have nd := (List.nodup_append.mp d.nd).2.1
    have all : ∀ y ∈ ls, y = x := fun y hy => Decidable.byContradiction fun q => by
      have : y ∈ ls.filter (fun y => decide (y ≠ x)) := List.mem_filter.mpr ⟨hy, decide_eq_true q⟩
      rw [hf] at this; cases this
    match ls, nd, all, (show 2 ≤ ls.length by omega) with
    | y :: z :: t, nd, all, _ =>
      rw [List.nodup_cons] at nd
      exact nd.1 (by rw [all y List.mem_cons_self, ← all z (List.mem_cons_of_mem _ List.mem_cons_self)]; exact List.mem_cons_self)
  | cons s3 t =>
    rw [hf] at one
    have h3 : s3 ∈ ls := by
      have : s3 ∈ ls.filter (fun y => decide (y ≠ x)) := by rw [hf]; exact List.mem_cons_self
      exact (List.mem_filter.mp this).1
    refine ⟨s1, s2, s3, s4, ns', a', b', c', ?_, fun s hs => ?_, i'⟩
    · simp -implicitDefEqProofs [-v_lcc, i1, ln, e, i2, one, i4]
    · simp only [List.mem_cons, List.not_mem_nil, or_false] at hs
      rcases hs with rfl | rfl | rfl | rfl
      · exact d.lt _ (List.mem_append_left _ h1)
      · exact d.lt _ (List.mem_append_left _ h2)
      · exact d.lt _ (List.mem_append_right _ h3)
      · exact d.lt _ (List.mem_append_left _ h4)
theorem q2_ok {ks : List Nat} (i : FI n a b c) (hn : n < 2147483647) (hk : ks.length = 4) : ∃ s ns' a' b' c', evS (F P (m + 1)) (G P) q2 (pk (more.length + 3) x k o3 (some (.lst (ks.map iD))) o8 o9) (H3 P ns a b c more ss ls fs) =
      .nxt (pk (more.length + 3) x k o3 (some (.lst (ks.map iD))) o8 (some (Ws.reg s).d)) (H3 P ns' a' b' c' more ss ls fs) ∧ s ∈ ks ∧ FI (n + 1) a' b' c' := by
  obtain ⟨r, ns', a', b', c', e, r0, r1, i'⟩ := draw_ok (P := P) (k := m) (ns := ns) (more := more ++ [.lst (ss.map iD), .lst (ls.map iD), .lst (fs.map pairD)]) (many := 4) i hn ⟨by decide, by decide⟩
  obtain ⟨s, h1, e1⟩ := atI_in (ks := ks) (i := r) (by omega) (by omega)
  refine ⟨s, ns', a', b', c', ?_, h1, i'⟩
  simp -implicitDefEqProofs [e, e1, Ws.d]
theorem q3_ok {w : Ws} {o7 : Option D} (i : FI n a b c) (hn : n < 2147483640) (hw : WsOk w) (hk : k < 28) : ∃ w' ns' a' b' c', evS (F P (m + 1)) (G P) q3 (pk (more.length + 3) x k o3 o7 o8 (some w.d)) (H3 P ns a b c more ss ls fs) =
      .nxt (pk (more.length + 3) x k o3 o7 o8 (some w'.d)) (H3 P ns' a' b' c' more ss ls fs) ∧ WsOk w' ∧ FI (n + 2) a' b' c' := by
  obtain ⟨r, ns1, a1, b1, c1, e, r0, r1, i1⟩ := draw_ok (P := P) (k := m) (ns := ns) (more := more ++ [.lst (ss.map iD), .lst (ls.map iD), .lst (fs.map pairD)]) (many := 6) i (by omega) ⟨by decide, by decide⟩
  by_cases q : r = 0
  · subst q
    obtain ⟨r2, ns2, a2, b2, c2, e2, g0, g1, i2⟩ := draw_ok (P := P) (k := m) (ns := ns1) (more := more ++ [.lst (ss.map iD), .lst (ls.map iD), .lst (fs.map pairD)]) (many := 2) i1 (by omega) ⟨by decide, by decide⟩
    have : r2 = 0 ∨ r2 = 1 := by omega
    rcases this with rfl | rfl
    · refine ⟨.int (5 - k), ns2, a2, b2, c2, ?_, ⟨by omega, by omega⟩, i2⟩
      simp -implicitDefEqProofs [e, e2, Ws.d]
    · refine ⟨.lab k, ns2, a2, b2, c2, ?_, ⟨by omega, by omega⟩, i2⟩
      simp -implicitDefEqProofs [e, e2, Ws.d]
  · refine ⟨w, ns1, a1, b1, c1, ?_, hw, i1.up (by omega)⟩
    simp -implicitDefEqProofs [e, q]
theorem q4_ok {w : Ws} {s : Nat} {o7 : Option D} (i : FI n a b c) (hn : n < 2147483640) (hm : MO more) (hk : ss[k]? = some s) (hz : fs.length + 1 ≤ 16777216) : ∃ sh ns' a' b' c', evS (F P (m + 2)) (G P) q4 (pk (more.length + 3) x k o3 o7 o8 (some w.d)) (H3 P ns a b c more ss ls fs) =
      .nxt (pk (more.length + 3) x k o3 o7 o8 (some w.d)) (H3 P ns' a' b' c' more ss ls (fs ++ [(s, ⟨sh, w⟩)])) ∧ FI (n + 1) a' b' c' := by
  obtain ⟨sh, ns', a', b', c', e, i'⟩ := wrap_ok (P := P) (m := m) (ns := ns) (w := w) i (by omega) (mo3 (ss := ss) (ls := ls) (fs := fs) hm)
  have i1 := PW.idx_lref (h3_0 (P := P) (ns := ns) (a := a) (b := b) (c := c) (more := more) (ss := ss) (ls := ls) (fs := fs)) (k : Int)
  have ei : L2.atI (ss.map iD) (k : Int) = some (iD s) := L2.atI_nat (by rw [List.getElem?_map, hk]; rfl)
  rw [ei] at i1
  have il := PW.is_l (h3_2 (P := P) (ns := ns) (a := a) (b := b) (c := c) (more := more) (ss := ss) (ls := ls) (fs := fs))
  have ap := h3_app (P := P) (ns := ns') (a := a') (b := b') (c := c') (more := more) (ss := ss) (ls := ls) (fs := fs) (p := (s, ⟨sh, w⟩)) hz
  have f1 : D.tup [iD s, Wd.d ⟨sh, w⟩] = pairD (s, ⟨sh, w⟩) := rfl
  refine ⟨sh, ns', a', b', c', ?_, i'⟩
  simp -implicitDefEqProofs [il, i1, e, f1, ap]
end
end K51
end

section
set_option maxRecDepth 100000
set_option maxHeartbeats 3200000
/-! K51M: what is pending. -/
namespace K51
open PySem PV
theorem lcP {turn : D → Hh → R (Option D)} (I : List D → List D → Hh → Prop) {all : List D} (st : ∀ d x r, d ++ x :: r = all → ∀ acc h, I d acc h → ∃ z h', turn x h = .ok (some z) h' ∧ I (d ++ [x]) (acc ++ [z]) h') :
    ∀ {xs done acc : List D} {h : Hh}, done ++ xs = all → I done acc h → ∃ acc' h', lcLoop (fun _ => true) turn xs acc h = .ok (.lst acc') h' ∧ I all acc' h'
  | [], done, acc, h, e, hi => ⟨acc, h, by unfold lcLoop; rfl, by rw [List.append_nil] at e; rw [← e]; exact hi⟩
  | x :: xs, done, acc, h, e, hi => by
    obtain ⟨z, h', e1, i1⟩ := st done x xs e acc h hi
    obtain ⟨acc', h2, e2, i2⟩ := lcP I st (xs := xs) (done := done ++ [x]) (by rw [List.append_assoc]; exact e) i1
    refine ⟨acc', h2, ?_, i2⟩
    unfold lcLoop
    rw [if_pos rfl, e1]
    exact e2
/-- the words so far -/
structure Fs (ss : List Nat) (k : Nat) (fs : Mv) : Prop where
  k : fs.map (·.1) = ss.take k
  ok : ∀ p ∈ fs, WsOk p.2.w
theorem Fs.snoc {ss : List Nat} {k s : Nat} {fs : Mv} {w : Wd} (f : Fs ss k fs) (hs : ss[k]? = some s) (hw : WsOk w.w) : Fs ss (k + 1) (fs ++ [(s, w)]) := by
  obtain ⟨hl, e⟩ := List.getElem?_eq_some_iff.mp hs
  refine ⟨?_, fun p hp => ?_⟩
  · rw [List.map_append, f.k, List.take_add_one, hs]
    rfl
  · (rcases List.mem_append.mp hp with h | h)
    · exact f.ok p h
    · obtain rfl := List.mem_singleton.mp h
      exact hw
section
variable {P : Nat} {ns : List Int} {a b c : Int} {more xs : Hh} {ss ls : List Nat} {h : Hh} {m n x k : Nat} {fs : Mv} {o3 o6 o7 o8 o9 : Option D}
theorem p4b_ok {s : Nat} (i : FI n a b c) (hn : n < 2147483600) (hm : MO more) (d : Dl ss ls) (hs : ss.length ≤ 28) (hx : x ∈ ls) (hk : ss[k]? = some s) (hf : Fs ss k fs) : ∃ w o7' o9' ns' a' b' c', evSs (F P (m + 2)) (G P) p4b (pk (more.length + 3) x k o3 o7 o8 o9) (H3 P ns a b c more ss ls fs) =
      .nxt (pk (more.length + 3) x k o3 o7' o8 o9') (H3 P ns' a' b' c' more ss ls (fs ++ [(s, w)])) ∧ WsOk w.w ∧ FI (n + 5) a' b' c' := by
  obtain ⟨hl, _⟩ := List.getElem?_eq_some_iff.mp hk
  have fl : fs.length = k := by
    have := congrArg List.length hf.k
    rw [List.length_map, List.length_take] at this
    omega
  obtain ⟨s1, s2, s3, s4, ns1, a1, b1, c1, e1, h1, i1⟩ := q1_ok (P := P) (m := m + 1) (more := more) (fs := fs) (o3 := o3) (o7 := o7) (o8 := o8) (o9 := o9) (k := k) i (by omega) d hs hx hl
  obtain ⟨t, ns2, a2, b2, c2, e2, h2, i2⟩ := q2_ok (P := P) (m := m + 1) (ns := ns1) (more := more) (ss := ss) (ls := ls) (fs := fs) (x := x) (k := k) (o3 := o3) (o8 := o8) (o9 := o9) (ks := [s1, s2, s3, s4]) i1 (by omega) rfl
  obtain ⟨w, ns3, a3, b3, c3, e3, h3, i3⟩ := q3_ok (P := P) (m := m + 1) (ns := ns2) (more := more) (ss := ss) (ls := ls) (fs := fs) (x := x) (k := k) (o3 := o3) (o7 := some (.lst ([s1, s2, s3, s4].map iD))) (o8 := o8) (w := .reg t) i2 (by omega) (h1 t h2) (by omega)
  obtain ⟨sh, ns4, a4, b4, c4, e4, i4⟩ := q4_ok (P := P) (m := m) (ns := ns3) (more := more) (ss := ss) (ls := ls) (fs := fs) (x := x) (k := k) (o3 := o3) (o7 := some (.lst ([s1, s2, s3, s4].map iD))) (o8 := o8) (w := w) i3 (by omega) hm hk (by omega)
  refine ⟨⟨sh, w⟩, some (.lst ([s1, s2, s3, s4].map iD)), some w.d, ns4, a4, b4, c4, ?_, h3, i4.up (by omega)⟩
  rw [s_cons, e1, sthn_nxt, s_cons, e2, sthn_nxt, s_cons, e3, sthn_nxt, s_cons, e4, sthn_nxt, s_nil]
abbrev p4 : S := .for_ (.v 6) (.rng (.bf .len (.cons (.var 1) .nil))) p4b
abbrev rngs (r : Nat) : List D := (List.range r).map fun k : Nat => D.int (k : Int)
theorem rngs_at {r : Nat} {d t : List D} {y : D} (e : d ++ y :: t = rngs r) : d.length < r ∧ y = .int (d.length : Nat) := by
  have h1 : d.length < r := by
    have := congrArg List.length e
    simp at this
    omega
  refine ⟨h1, ?_⟩
  have : (rngs r)[d.length]? = some y := by rw [← e]; simp
  rw [List.getElem?_map, List.getElem?_range h1] at this
  (exact (Option.some.inj this).symm)
theorem p4_ok (i : FI n a b c) (hn : n < 2147480000) (hm : MO more) (d : Dl ss ls) (hs : ss.length ≤ 28) (hx : x ∈ ls) : ∃ fs o6' o7' o9' ns' a' b' c', evS (F P (m + 2)) (G P) p4 (pe (more.length + 3) o3 (some (iD x)) (some (.ref (more.length + 3 + 2))) none none none none) (H3 P ns a b c more ss ls []) =
      .nxt (pe (more.length + 3) o3 (some (iD x)) (some (.ref (more.length + 3 + 2))) o6' o7' none o9') (H3 P ns' a' b' c' more ss ls fs) ∧ Fs ss ss.length fs ∧ FI (n + 140) a' b' c' := by
  have lp : ∃ ρ' h', forLoop (fun _ => true) (.v 6) (evSs (F P (m + 2)) (G P) p4b) (rngs ss.length) (pe (more.length + 3) o3 (some (iD x)) (some (.ref (more.length + 3 + 2))) none none none none) (H3 P ns a b c more ss ls []) = .nxt ρ' h' ∧
      ∃ fs o6' o7' o9' ns' a' b' c', ρ' = pe (more.length + 3) o3 (some (iD x)) (some (.ref (more.length + 3 + 2))) o6' o7' none o9' ∧ h' = H3 P ns' a' b' c' more ss ls fs ∧ Fs ss (rngs ss.length).length fs ∧ FI (n + 5 * (rngs ss.length).length) a' b' c' := by
    refine PW.forP (fun done ρ h => ∃ fs o6' o7' o9' ns' a' b' c', ρ = pe (more.length + 3) o3 (some (iD x)) (some (.ref (more.length + 3 + 2))) o6' o7' none o9' ∧ h = H3 P ns' a' b' c' more ss ls fs ∧ Fs ss done.length fs ∧ FI (n + 5 * done.length) a' b' c') (fun dn y t e ρ h => ?_) (done := []) rfl ⟨[], none, none, none, ns, a, b, c, rfl, rfl, ⟨rfl, fun p hp => by cases hp⟩, i⟩
    rintro ⟨fs, o6', o7', o9', ns', a', b', c', rfl, rfl, hf, i'⟩
    obtain ⟨hd, rfl⟩ := rngs_at e
    have hk := List.getElem?_eq_getElem hd
    obtain ⟨w, p7, p9, ns2, a2, b2, c2, e2, hw, i2⟩ := p4b_ok (P := P) (m := m) (more := more) (o3 := o3) (o7 := o7') (o8 := none) (o9 := o9') i' (by omega) hm d hs hx hk hf
    exact ⟨_, _, _, rfl, e2, _, some (.int dn.length), p7, p9, ns2, a2, b2, c2, rfl, rfl, by rw [List.length_append]; exact hf.snoc hk hw, i2.up (by rw [List.length_append]; simp only [List.length_cons, List.length_nil]; omega)⟩
  obtain ⟨ρ', h', el, fs, o6', o7', o9', ns', a', b', c', rfl, rfl, hf, i'⟩ := lp
  have rl : (rngs ss.length).length = ss.length := by simp
  rw [rl] at hf i'
  have ln := PW.len_lref (h3_0 (P := P) (ns := ns) (a := a) (b := b) (c := c) (more := more) (ss := ss) (ls := ls) (fs := []))
  rw [List.length_map] at ln
  have rg : rngOk 0 (ss.length : Int) = true := PW.rng_ok ⟨by decide, by decide⟩ ⟨by omega, by omega⟩
  refine ⟨fs, o6', o7', o9', ns', a', b', c', ?_, hf, i'.up (by omega)⟩
  rw [s_for]
  have ei : evI (F P (m + 2)) (G P) (.rng (.bf .len (.cons (.var 1) .nil))) (pe (more.length + 3) o3 (some (iD x)) (some (.ref (more.length + 3 + 2))) none none none none) (H3 P ns a b c more ss ls []) = .ok ⟨rngs ss.length, none⟩ (H3 P ns a b c more ss ls []) := by
    simp -implicitDefEqProofs [ln, rg, PW.rngD_nat]
  rw [ei, thn_ok]
  exact el
abbrev p5 : S := .ite (.cmp .eq (.call 4 (.cons (.var 0) (.cons (.con (.int 2)) .nil))) (.con (.int 0))) (.cons (.asgLc 5 (.new (e__law_pending_1))) .nil) (.nil)
/-- found, wherever it stands -/
theorem p5_ok (i : FI n a b c) (hn : n < 2147480000) (hm : MO more) (d : Dl ss ls) (hs : ss.length ≤ 28) (hf : Fs ss ss.length fs) : ∃ f gs ys ns' a' b' c', evS (F P (m + 3)) (G P) p5 (pe (more.length + 3) o3 (some (iD x)) (some (.ref (more.length + 3 + 2))) o6 o7 o8 o9) (H3 P ns a b c more ss ls fs) =
      .nxt (pe (more.length + 3) o3 (some (iD x)) (some (.ref f)) o6 o7 o8 o9) (Fl P ns' a' b' c' (more ++ ys)) ∧ (Fl P ns' a' b' c' (more ++ ys))[f]? = some (.lst (gs.map pairD)) ∧ Fs ss ss.length gs ∧ FI (n + 30) a' b' c' := by
  obtain ⟨r, ns1, a1, b1, c1, e, r0, r1, i1⟩ := draw_ok (P := P) (k := m + 2) (ns := ns) (more := more ++ [.lst (ss.map iD), .lst (ls.map iD), .lst (fs.map pairD)]) (many := 2) i (by omega) ⟨by decide, by decide⟩
  by_cases q : r = 0
  · subst q
    let ρ := pe (more.length + 3) o3 (some (iD x)) (some (.ref (more.length + 3 + 2))) o6 o7 o8 o9
    have lp : ∃ acc' h', lcLoop (fun _ => true) (lcTurn (.v 6) (evE (F P (m + 3)) (G P) c__law_pending_1) (evE (F P (m + 3)) (G P) x__law_pending_1) ρ) (rngs ss.length) [] (H3 P ns1 a1 b1 c1 more ss ls fs) = .ok (.lst acc') h' ∧
        ∃ gs ns' a' b' c', acc' = gs.map pairD ∧ h' = H3 P ns' a' b' c' more ss ls fs ∧ Fs ss (rngs ss.length).length gs ∧ FI (n + 1 + (rngs ss.length).length) a' b' c' := by
      refine lcP (fun done acc h => ∃ gs ns' a' b' c', acc = gs.map pairD ∧ h = H3 P ns' a' b' c' more ss ls fs ∧ Fs ss done.length gs ∧ FI (n + 1 + done.length) a' b' c') (fun dn y t e2 acc h => ?_) (done := []) rfl ⟨[], ns1, a1, b1, c1, rfl, rfl, ⟨rfl, fun p hp => by cases hp⟩, i1⟩
      rintro ⟨gs, ns', a', b', c', rfl, rfl, hg, i'⟩
      obtain ⟨hd, rfl⟩ := rngs_at e2
      have hk := List.getElem?_eq_getElem hd
      obtain ⟨s1, h1, e1⟩ := atI_in (ks := ss) (i := (dn.length : Int) - 1) (by omega) (by omega)
      have i1 := PW.idx_lref (h3_0 (P := P) (ns := ns') (a := a') (b := b') (c := c') (more := more) (ss := ss) (ls := ls) (fs := fs)) ((dn.length : Int) - 1)
      have i4 := PW.idx_lref (h3_0 (P := P) (ns := ns') (a := a') (b := b') (c := c') (more := more) (ss := ss) (ls := ls) (fs := fs)) (dn.length : Int)
      have e4 : L2.atI (ss.map iD) (dn.length : Int) = some (iD ss[dn.length]) := L2.atI_nat (by rw [List.getElem?_map, hk]; rfl)
      rw [e1] at i1
      rw [e4] at i4
      obtain ⟨sh, ns2, a2, b2, c2, e3, i2⟩ := wrap_ok (P := P) (m := m + 1) (ns := ns') (w := .reg s1) i' (by omega) (mo3 (ss := ss) (ls := ls) (fs := fs) hm)
      have e3 : C P (m + 3) n__law_wrapped [.ref 2, .tup [.str "register", iD s1]] (H3 P ns' a' b' c' more ss ls fs) = .ok (Wd.d ⟨sh, .reg s1⟩) (H3 P ns2 a2 b2 c2 more ss ls fs) := e3
      have f1 : D.tup [iD ss[dn.length], Wd.d ⟨sh, .reg s1⟩] = pairD (ss[dn.length], ⟨sh, .reg s1⟩) := rfl
      refine ⟨pairD (ss[dn.length], ⟨sh, .reg s1⟩), _, ?_, gs ++ [(ss[dn.length], ⟨sh, .reg s1⟩)], ns2, a2, b2, c2, by rw [List.map_append]; rfl, rfl, by rw [List.length_append]; exact hg.snoc hk (d.lt _ (List.mem_append_left _ h1)), by rw [List.length_append]; exact i2⟩
      show lcTurn (.v 6) _ _ (pe (more.length + 3) o3 (some (iD x)) (some (.ref (more.length + 3 + 2))) o6 o7 o8 o9) _ _ = _
      simp -implicitDefEqProofs [lcTurn, Tg.put, i4, i1, e3, f1]
    obtain ⟨acc', h', el, gs, ns', a', b', c', rfl, rfl, hg, i'⟩ := lp
    have rl : (rngs ss.length).length = ss.length := by simp
    rw [rl] at hg i'
    have ln := PW.len_lref (h3_0 (P := P) (ns := ns1) (a := a1) (b := b1) (c := c1) (more := more) (ss := ss) (ls := ls) (fs := fs))
    rw [List.length_map] at ln
    have rg : rngOk 0 (ss.length : Int) = true := PW.rng_ok ⟨by decide, by decide⟩ ⟨by omega, by omega⟩
    have ei : evI (F P (m + 3)) (G P) i__law_pending_1 ρ (H3 P ns1 a1 b1 c1 more ss ls fs) = .ok ⟨rngs ss.length, none⟩ (H3 P ns1 a1 b1 c1 more ss ls fs) := by
      show evI (F P (m + 3)) (G P) i__law_pending_1 (pe (more.length + 3) o3 (some (iD x)) (some (.ref (more.length + 3 + 2))) o6 o7 o8 o9) _ = _
      simp -implicitDefEqProofs [ln, rg, PW.rngD_nat]
    have z : PV.sizeOk (rngs ss.length).length = true := decide_eq_true (by rw [rl]; omega)
    have ev : (evE (F P (m + 3)) (G P) e__law_pending_1).v ρ (H3 P ns1 a1 b1 c1 more ss ls fs) = .ok (.lst (gs.map pairD)) (H3 P ns' a' b' c' more ss ls fs) := by
      rw [v_lcc, ei, bnd_ok]
      dsimp only
      rw [if_pos z]
      exact el
    refine ⟨(H3 P ns' a' b' c' more ss ls fs).length, gs, [.lst (ss.map iD), .lst (ls.map iD), .lst (fs.map pairD)] ++ [.lst (gs.map pairD)], ns', a', b', c', ?_, ?_, hg, i'.up (by omega)⟩
    · have tc : (evE (F P (m + 3)) (G P) (.cmp .eq (.call 4 (.cons (.var 0) (.cons (.con (.int 2)) .nil))) (.con (.int 0)))).t ρ (H3 P ns a b c more ss ls fs) = .ok true (H3 P ns1 a1 b1 c1 more ss ls fs) := by
        show (evE _ _ _).t (pe (more.length + 3) o3 (some (iD x)) (some (.ref (more.length + 3 + 2))) o6 o7 o8 o9) _ = _
        simp -implicitDefEqProofs [e]
      have hh : H3 P ns' a' b' c' more ss ls fs ++ [O.lst (gs.map pairD)] = Fl P ns' a' b' c' (more ++ ([.lst (ss.map iD), .lst (ls.map iD), .lst (fs.map pairD)] ++ [.lst (gs.map pairD)])) := by
        unfold H3
        rw [fl_app, List.append_assoc]
      rw [← hh]
      show evS (F P (m + 3)) (G P) p5 ρ _ = _
      rw [s_ite, tc, thn_ok, if_pos rfl, s_cons, s_asgLc, v_new, ev, bnd_ok]
      rfl
    · have := fl_at (P := P) (ns := ns') (a := a') (b := b') (c := c') (more := more) (xs := [.lst (ss.map iD), .lst (ls.map iD), .lst (fs.map pairD)] ++ [.lst (gs.map pairD)]) (k := 3)
      have l3 : (H3 P ns' a' b' c' more ss ls fs).length = more.length + 3 + 3 := by unfold H3; rw [fl_len]; simp
      rw [l3]
      exact this
  · refine ⟨more.length + 3 + 2, fs, [.lst (ss.map iD), .lst (ls.map iD), .lst (fs.map pairD)], ns1, a1, b1, c1, ?_, h3_2, hf, i1.up (by omega)⟩
    simp -implicitDefEqProofs [e, q]
end
end K51
end

section
set_option maxRecDepth 100000
set_option maxHeartbeats 3200000
/-! K51N: what is pending, sorted. -/
namespace K51
open PySem PV
/-- what the law draws -/
structure Pend (sp : Nat) (l : Mv) : Prop where
  asc : Asc sp l
  rng : Rng 30 sp l
  len : l.length ≤ 28
  ok : ∀ p ∈ l, WsOk p.2.w
section
variable {P : Nat} {ns : List Int} {a b c : Int} {more ys : Hh} {h : Hh} {m n : Nat}
abbrev le1 (p q : Nat × Wd) : Bool := decide ((p.1 : Int) ≤ (q.1 : Int))
theorem tb_ok : tbAt (G P) (Fl P ns a b c more) lamQ = true := by
  show (decide ((P : Int) = (P : Int)) && decide (lamQ = lamQ)) = true
  simp
theorem srt_ok {f : Nat} {gs : Mv} (e : h[f]? = some (.lst (gs.map pairD))) (hl : gs.length ≤ 1000) : srtKOp h (.ref f) = some (.lst ((gs.mergeSort le1).map pairD)) := by
  have r : (D.ref f).res h = .lst (gs.map pairD) := by
    show (match h[f]? with | some (.lst xs) => D.lst xs | _ => .ref f) = _
    rw [e]
  unfold srtKOp
  rw [r]
  dsimp only
  have k : ((gs.map pairD).all (fun d => (keyD d).isSome) && PV.sizeOk (gs.map pairD).length) = true := by
    rw [Bool.and_eq_true, List.all_map]
    refine ⟨List.all_eq_true.mpr fun p _ => rfl, decide_eq_true (by rw [List.length_map]; omega)⟩
  rw [if_pos k]
  congr 2
  exact (List.map_mergeSort (r := le1) (s := fun a b => decide (a.keyL ≤ b.keyL)) (f := pairD) (l := gs) fun p _ q _ => rfl).symm
theorem pend_of {ss ls : List Nat} {x : Nat} {gs : Mv} (d : Dl ss ls) (hs : ss.length ≤ 28) (hx : x ∈ ls) (hf : Fs ss ss.length gs) : Pend x (gs.mergeSort le1) := by
  have pm : (gs.mergeSort le1).Perm gs := List.mergeSort_perm _ _
  have so : (gs.mergeSort le1).Pairwise fun p q => le1 p q = true := List.pairwise_mergeSort (fun p q r h1 h2 => by
    have h1 := of_decide_eq_true h1
    have h2 := of_decide_eq_true h2
    exact decide_eq_true (by omega)) (fun p q => by
    by_cases c : (p.1 : Int) ≤ q.1
    · rw [show le1 p q = true from decide_eq_true c]; rfl
    · rw [show le1 q p = true from decide_eq_true (by omega)]; simp) gs
  have key : gs.map (·.1) = ss := by rw [hf.k, List.take_length]
  have nd2 : ss.Nodup := (List.nodup_append.mp d.nd).1
  have ndk : ((gs.mergeSort le1).map (·.1)).Nodup := (pm.map (·.1)).nodup_iff.mpr (by rw [key]; exact nd2)
  have mem : ∀ y, y ∈ (gs.mergeSort le1).map (·.1) → y ∈ ss := fun y hy => by
    rw [← key]
    exact (pm.map (·.1)).mem_iff.mp hy
  refine ⟨⟨?_, fun h => (List.nodup_append.mp d.nd).2.2 x (mem x h) x hx rfl⟩, ⟨d.lt x (List.mem_append_right _ hx), fun p hp => d.lt _ (List.mem_append_left _ (mem _ (List.mem_map.mpr ⟨p, hp, rfl⟩))), fun p hp s e => ?_⟩, ?_, fun p hp => hf.ok p (pm.mem_iff.mp hp)⟩
  · rw [List.pairwise_map]
    have nd3 : (gs.mergeSort le1).Pairwise fun p q => p.1 ≠ q.1 := List.pairwise_map.mp ndk
    refine List.Pairwise.imp₂ (R := fun p q => le1 p q = true) (S := fun p q => p.1 ≠ q.1) (fun p q h1 h2 => ?_) so nd3
    have h1 := of_decide_eq_true h1
    omega
  · have := hf.ok p (pm.mem_iff.mp hp)
    obtain ⟨k, ⟨sh, w⟩⟩ := p
    cases w with
    | reg t =>
      obtain rfl := Option.some.inj (show some t = some s from e)
      exact this
    | int t => cases e
    | lab t => cases e
  · have := congrArg List.length key
    rw [List.length_map] at this
    rw [pm.length_eq]
    omega
theorem pending_ok (i : FI n a b c) (hn : n < 2147400000) (hm : MO more) : ∃ sp l ns' a' b' c', C P (m + 4) n__law_pending [.ref 2] (Fl P ns a b c more) = .ok (.lst [.tup (l.map pairD), .int (sp : Nat)]) (Fl P ns' a' b' c' more) ∧ Pend sp l ∧ FI (n + 300) a' b' c' := by
  obtain ⟨o3, ss, ls, ns1, a1, b1, c1, e1, d, hs, i1⟩ := pst2' (P := P) (m := m + 2) (ns := ns) (more := more) i (by omega)
  obtain ⟨x, ns2, a2, b2, c2, e2, hx, i2⟩ := pst3 (P := P) (m := m + 2) (ns := ns1) (more := more) (o3 := o3) i1 (by omega) d hs
  obtain ⟨fs, o6, o7, o9, ns3, a3, b3, c3, e3, hf, i3⟩ := p4_ok (P := P) (m := m + 1) (ns := ns2) (more := more) (o3 := o3) i2 (by omega) hm d hs hx
  obtain ⟨f, gs, ys, ns4, a4, b4, c4, e4, hl, hg, i4⟩ := p5_ok (P := P) (m := m) (ns := ns3) (more := more) (o3 := o3) (x := x) (o6 := o6) (o7 := o7) (o8 := none) (o9 := o9) i3 (by omega) hm d hs hf
  have gl : gs.length ≤ 1000 := by
    have := congrArg List.length hg.k
    rw [List.length_map, List.take_length] at this
    omega
  refine ⟨x, gs.mergeSort le1, ns4, a4, b4, c4, ?_, pend_of d hs hx hg, i4.up (by omega)⟩
  have sr := srt_ok hl gl
  have tb := tb_ok (P := P) (ns := ns4) (a := a4) (b := b4) (c := c4) (more := more ++ ys)
  have e5 : evS (F P (m + 3)) (G P) (.ret (.lst (.cons (.bf .tuple (.cons (.srtK (.var 5) "_law_pending.<locals>.<lambda>") .nil)) (.cons (.var 4) .nil)))) (pe (more.length + 3) o3 (some (iD x)) (some (.ref f)) o6 o7 none o9) (Fl P ns4 a4 b4 c4 (more ++ ys)) = .ret (.lst [.tup ((gs.mergeSort le1).map pairD), iD x]) (Fl P ns4 a4 b4 c4 (more ++ ys)) := by
    simp -implicitDefEqProofs [tb, sr]
  rw [C__law_pending]
  show finR true _ (evSs _ _ (.cons p1 (.cons p2 (.cons p3 (.cons p4 (.cons p5 (.cons _ .nil)))))) _ _) = _
  rw [s_cons, pst1, sthn_nxt, s_cons, e1, sthn_nxt, s_cons, e2, sthn_nxt, s_cons]
  have e3' : evS (F P (m + 3)) (G P) p4 (pe (more.length + 3) o3 (some (iD x)) (some (.ref (more.length + 3 + 2))) none none none none) (Fl P ns2 a2 b2 c2 (more ++ [.lst (ss.map iD), .lst (ls.map iD), .lst []])) = _ := e3
  rw [e3', sthn_nxt, s_cons, e4, sthn_nxt, s_cons, e5, sthn_ret]
  refine fin_fl hm ?_
  show (D.rlts 0 ((gs.mergeSort le1).map pairD) && (true && true)) = true
  rw [pairs_rlt]; rfl
end
end K51
end

section
set_option maxRecDepth 100000
set_option maxHeartbeats 3200000
/-! K51O: what is due. -/
namespace K51
open PySem PV
abbrev reg0 (k : Nat) : D := .tup [.str "int", .int (1000 + (k : Int))]
abbrev regs0 : List D := (List.range 30).map reg0
def dues (xs : List D) : List D → Mv → List D
  | ds, [] => ds
  | ds, p :: l => dues xs (ds.set p.1 (val xs p.2)) l
theorem dues_len (xs : List D) : ∀ (l : Mv) (ds : List D), (dues xs ds l).length = ds.length
  | [], _ => rfl
  | p :: l, ds => by show (dues xs (ds.set p.1 (val xs p.2)) l).length = _; rw [dues_len xs l, List.length_set]
theorem dues_out (xs : List D) : ∀ (l : Mv) (ds : List D) (s : Nat), s ∉ l.map (·.1) → (dues xs ds l).getD s .non = ds.getD s .non
  | [], _, _, _ => rfl
  | p :: l, ds, s, h => by
    rw [List.map_cons, List.mem_cons, not_or] at h
    show (dues xs (ds.set p.1 (val xs p.2)) l).getD s .non = _
    rw [dues_out xs l _ s h.2]
    simp only [List.getD_eq_getElem?_getD, List.getElem?_set_ne (Ne.symm h.1)]
theorem dues_in (xs : List D) : ∀ (l : Mv) (ds : List D), (l.map (·.1)).Nodup → (∀ p ∈ l, p.1 < ds.length) → ∀ p ∈ l, (dues xs ds l).getD p.1 .non = val xs p.2
  | [], _, _, _, p, h => by cases h
  | q :: l, ds, nd, hl, p, h => by
    (rw [List.map_cons, List.nodup_cons] at nd)
    show (dues xs (ds.set q.1 (val xs q.2)) l).getD p.1 .non = _
    (rcases List.mem_cons.mp h with e | h)
    · subst e
      rw [dues_out xs l _ _ nd.1]
      have := hl p List.mem_cons_self
      (simp [List.getD_eq_getElem?_getD, this])
    · exact dues_in xs l _ nd.2 (fun r hr => by rw [List.length_set]; exact hl r (List.mem_cons_of_mem _ hr)) p h
theorem dues_app (xs : List D) : ∀ (l : Mv) (ds : List D) (p : Nat × Wd), dues xs ds (l ++ [p]) = (dues xs ds l).set p.1 (val xs p.2)
  | [], _, _ => rfl
  | q :: l, ds, p => dues_app xs l _ p
theorem exec_app : ∀ (l : Mv) (xs : List D) (p : Nat × Wd), exec xs (l ++ [p]) = (exec xs l).set p.1 (val (exec xs l) p.2)
  | [], _, _ => rfl
  | q :: l, xs, p => exec_app l _ p
/-! plain values -/
def Pl (x : D) : Prop := PW.Nc 1 x ∧ x.rlt 0 = true
theorem pl_ws (w : Ws) : Pl w.d := by
  refine ⟨?_, ws_rlt w⟩
  cases w <;> exact .tup (show 2 ≤ 1000000 by decide) fun x hx => by
    (simp only [List.mem_cons, List.not_mem_nil, or_false] at hx)
    rcases hx with rfl | rfl
    · exact .str _
    · exact .int _
theorem pl_non : Pl .non := ⟨.non, rfl⟩
theorem pl_getD {xs : List D} (h : ∀ x ∈ xs, Pl x) (s : Nat) : Pl (xs.getD s .non) := by
  (rw [List.getD_eq_getElem?_getD])
  cases e : xs[s]? with
  | none => exact pl_non
  | some x => exact h x (List.mem_of_getElem? e)
theorem pl_val {xs : List D} (h : ∀ x ∈ xs, Pl x) (w : Wd) : Pl (val xs w) := by
  obtain ⟨sh, w⟩ := w
  cases w with
  | reg s => exact pl_getD h s
  | int n => exact pl_ws (.int n)
  | lab n => exact pl_ws (.lab n)
theorem pl_set {xs : List D} {s : Nat} {y : D} (h : ∀ x ∈ xs, Pl x) (hy : Pl y) : ∀ x ∈ xs.set s y, Pl x := fun x hx => by
  rcases List.mem_or_eq_of_mem_set hx with e | e
  · exact h x e
  · rw [e]; exact hy
theorem pl_regs0 : ∀ x ∈ regs0, Pl x := fun x hx => by
  obtain ⟨k, _, rfl⟩ := List.mem_map.mp hx
  exact pl_ws (.int (1000 + (k : Int)))
theorem pl_dues {xs : List D} (h : ∀ x ∈ xs, Pl x) : ∀ (l : Mv) (ds : List D), (∀ x ∈ ds, Pl x) → ∀ x ∈ dues xs ds l, Pl x
  | [], _, hd => hd
  | p :: l, ds, hd => pl_dues h l _ (pl_set hd (pl_val h p.2))
theorem pl_exec : ∀ (l : Mv) (xs : List D), (∀ x ∈ xs, Pl x) → ∀ x ∈ exec xs l, Pl x
  | [], _, h => h
  | p :: l, xs, h => pl_exec l _ (pl_set h (pl_val h p.2))
theorem pl_rlts : ∀ {xs : List D}, (∀ x ∈ xs, Pl x) → D.rlts 0 xs = true
  | [], _ => rfl
  | x :: xs, h => by
    show (D.rlt 0 x && D.rlts 0 xs) = true
    rw [(h x List.mem_cons_self).2, pl_rlts fun y hy => h y (List.mem_cons_of_mem _ hy)]; rfl
theorem ext_getD {xs ys : List D} (hl : xs.length = ys.length) (h : ∀ s, xs.getD s .non = ys.getD s .non) : xs = ys := by
  refine List.ext_getElem? fun s => ?_
  have := h s
  simp only [List.getD_eq_getElem?_getD] at this
  by_cases c : s < xs.length
  · have c2 : s < ys.length := by omega
    rw [List.getElem?_eq_getElem c, List.getElem?_eq_getElem c2] at this ⊢
    exact congrArg some this
  · rw [List.getElem?_eq_none (by omega), List.getElem?_eq_none (by omega)]
/-- at the end all is as due -/
theorem all_due {sp : Nat} {l rs : Mv} (pd : Pend sp l) (r : Run sp (l.filter keep) rs) : (exec regs0 rs).set sp ((dues regs0 regs0 l).getD sp .non) = dues regs0 regs0 l := by
  have l0 : regs0.length = 30 := by rw [List.length_map, List.length_range]
  have a2 : Asc sp (l.filter keep) := ⟨pd.asc.lt.sublist (List.filter_sublist.map _), fun h => by
    (obtain ⟨p, hp, e⟩ := List.mem_map.mp h)
    exact pd.asc.sp (List.mem_map.mpr ⟨p, (List.mem_filter.mp hp).1, e⟩)⟩
  have g2 : Rng 30 sp (l.filter keep) := ⟨pd.rng.sp, fun p hp => pd.rng.k p (List.mem_filter.mp hp).1, fun p hp => pd.rng.r p (List.mem_filter.mp hp).1⟩
  have din := dues_in regs0 l regs0 pd.asc.nd fun p hp => by rw [l0]; exact pd.rng.k p hp
  have ok := run_ok r a2 g2 (xs := regs0) (due := dues regs0 regs0 l) l0 (fun p hp => (din p (List.mem_filter.mp hp).1).symm) fun s hs hsp => by
    by_cases c : s ∈ l.map (·.1)
    · obtain ⟨p, hp, rfl⟩ := List.mem_map.mp c
      rw [din p hp]
      -- a word that reads its own place alone is left as it is
      have kf : keep p = false := by
        cases q : keep p with
        | false => rfl
        | true => exact absurd (List.mem_map.mpr ⟨p, List.mem_filter.mpr ⟨hp, q⟩, rfl⟩) hs
      obtain ⟨k, ⟨sh, w⟩⟩ := p
      cases sh <;> cases w <;> simp [keep] at kf
      subst kf
      rfl
    · exact (dues_out regs0 l regs0 s c).symm
  refine ext_getD (by rw [List.length_set, exec_len, dues_len]) fun s => ?_
  by_cases c : s = sp
  · subst c
    have : s < (exec regs0 rs).length := by rw [exec_len, l0]; exact pd.rng.sp
    (simp [List.getD_eq_getElem?_getD, this])
  · have := ok s c
    rw [← this]
    simp only [List.getD_eq_getElem?_getD, List.getElem?_set_ne (Ne.symm c)]
end K51
end

section
set_option maxRecDepth 100000
set_option maxHeartbeats 3200000
/-! K51P: what is pending, as a text. -/
namespace K51
open PySem PV Kn
theorem small_len : ∀ j : Fin 61, (Str.ofString (toString ((j.val : Int) - 30))).length ≤ 8 := by decide +kernel
theorem vd_small {n dp B : Nat} {i : Int} (h0 : -30 ≤ i) (h1 : i ≤ 30) (hB : 8 ≤ B) : Vd n dp B (.int i) := by
  refine ⟨?_, rfl, Nat.zero_le _, ?_⟩
  · refine decide_eq_true ?_
    have a : i.natAbs < 2 ^ 27 := by omega
    by_cases z : i.natAbs = 0
    · rw [z]; decide
    · exact Nat.lt_of_lt_of_le ((Nat.log2_lt z).mpr a) (by decide)
  · have := small_len ⟨(i + 30).toNat, by omega⟩
    have e : (((⟨(i + 30).toNat, by omega⟩ : Fin 61).val : Int)) - 30 = i := by
      show (((i + 30).toNat : Nat) : Int) - 30 = i
      omega
    rw [e] at this
    simp only [Kn.wt]
    omega
theorem vs_lit {n dp : Nat} : Vd n dp 20 (.str "register") ∧ Vd n dp 20 (.str "int") ∧ Vd n dp 20 (.str "label") ∧ Vd n dp 20 (.str "fold") ∧ Vd n dp 20 (.str "unfold") ∧ Vd n dp 20 (.str "at") ∧ Vd n dp 20 (.str "hide") ∧ Vd n dp 20 (.str "some") ∧ Vd n dp 20 (.str "rec") ∧ Vd n dp 20 (.str "cell") ∧ Vd n dp 20 (.str "var") :=
  ⟨.str (by decide +kernel) (by decide +kernel), .str (by decide +kernel) (by decide +kernel), .str (by decide +kernel) (by decide +kernel), .str (by decide +kernel) (by decide +kernel), .str (by decide +kernel) (by decide +kernel), .str (by decide +kernel) (by decide +kernel), .str (by decide +kernel) (by decide +kernel), .str (by decide +kernel) (by decide +kernel), .str (by decide +kernel) (by decide +kernel), .str (by decide +kernel) (by decide +kernel), .str (by decide +kernel) (by decide +kernel)⟩
theorem nil0 {n dp : Nat} : Vs n dp 0 [] := Vs.nil
theorem le60 {n : Nat} (h : Nat.ble n 60 = true := by rfl) : n ≤ 60 := Nat.le_of_ble_eq_true h
theorem vd_ws {w : Ws} (h : WsOk w) : Vd 60 1 40 w.d := by
  obtain ⟨l1, l2, l3, _⟩ := vs_lit (n := 60) (dp := 0)
  cases w with
  | reg s => exact (Vd.tup (Vs.cons l1 (Vs.cons (vd_small (B := 8) (by omega) (by have : s < 30 := h; omega) (by decide)) nil0)) le60).mono (Nat.le_refl _) (by decide) (by decide)
  | int i => exact (Vd.tup (Vs.cons l2 (Vs.cons (vd_small (B := 8) h.1 h.2 (by decide)) nil0)) le60).mono (Nat.le_refl _) (by decide) (by decide)
  | lab i => exact (Vd.tup (Vs.cons l3 (Vs.cons (vd_small (B := 8) (by have := h.1; omega) h.2 (by decide)) nil0)) le60).mono (Nat.le_refl _) (by decide) (by decide)
theorem vd_wd {w : Wd} (h : WsOk w.w) : Vd 60 5 400 w.d := by
  obtain ⟨sh, w⟩ := w
  have hw := vd_ws h
  obtain ⟨_, l2, _, l4, l5, l6, l7, l8, l9, l10, l11⟩ := vs_lit (n := 60) (dp := 4)
  have zero : Vd 60 4 8 (.int 0) := vd_small (by decide) (by decide) (by decide)
  have v1 : Vd 60 1 40 (.tup [.str "var", .int 0]) := (Vd.tup (dp := 0) (Vs.cons (vs_lit (n := 60) (dp := 0)).2.2.2.2.2.2.2.2.2.2 (Vs.cons (vd_small (B := 8) (by decide) (by decide) (by decide)) nil0)) le60).mono (Nat.le_refl _) (by decide) (by decide)
  have v2 : Vd 60 2 70 (.tup [.str "cell", .tup [.str "var", .int 0]]) := (Vd.tup (dp := 1) (Vs.cons (vs_lit (n := 60) (dp := 1)).2.2.2.2.2.2.2.2.2.1 (Vs.cons v1 nil0)) le60).mono (Nat.le_refl _) (by decide) (by decide)
  have v3 : Vd 60 3 100 kindD := (Vd.tup (dp := 2) (Vs.cons (vs_lit (n := 60) (dp := 2)).2.2.2.2.2.2.2.2.1 (Vs.cons v2 nil0)) le60).mono (Nat.le_refl _) (by decide) (by decide)
  have i1 : Vd 60 1 40 (.tup [.str "int"]) := (Vd.tup (dp := 0) (Vs.cons (vs_lit (n := 60) (dp := 0)).2.1 nil0) le60).mono (Nat.le_refl _) (by decide) (by decide)
  have u1 : Vd 60 2 80 (.tup [.str "unfold", w.d]) := (Vd.tup (dp := 1) (Vs.cons (vs_lit (n := 60) (dp := 1)).2.2.2.2.1 (Vs.cons hw nil0)) le60).mono (Nat.le_refl _) (by decide) (by decide)
  have s1 : Vd 60 2 80 (.tup [.str "some", .tup [.str "var", .int 0]]) := (Vd.tup (dp := 1) (Vs.cons (vs_lit (n := 60) (dp := 1)).2.2.2.2.2.2.2.1 (Vs.cons v1 nil0)) le60).mono (Nat.le_refl _) (by decide) (by decide)
  cases sh with
  | p => exact hw.mono (Nat.le_refl _) (by decide) (by decide)
  | fo => exact (Vd.tup (dp := 4) (Vs.cons l4 (Vs.cons (v3.mono (Nat.le_refl _) (dp' := 4) (B' := 100) (by decide) (by decide)) (Vs.cons (hw.mono (Nat.le_refl _) (dp' := 4) (B' := 40) (by decide) (by decide)) nil0))) le60).mono (Nat.le_refl _) (by decide) (by decide)
  | un => exact u1.mono (Nat.le_refl _) (by decide) (by decide)
  | at_ =>
    have k : Vd 60 4 200 (.tup [.tup [.str "int"], kindD]) := (Vd.tup (dp := 3) (Vs.cons (i1.mono (Nat.le_refl _) (dp' := 3) (B' := 40) (by decide) (by decide)) (Vs.cons v3 nil0)) le60).mono (Nat.le_refl _) (by decide) (by decide)
    exact (Vd.tup (dp := 4) (Vs.cons l6 (Vs.cons (hw.mono (Nat.le_refl _) (dp' := 4) (B' := 40) (by decide) (by decide)) (Vs.cons k nil0))) le60).mono (Nat.le_refl _) (by decide) (by decide)
  | hi => exact (Vd.tup (dp := 4) (Vs.cons l7 (Vs.cons (i1.mono (Nat.le_refl _) (dp' := 4) (B' := 40) (by decide) (by decide)) (Vs.cons (u1.mono (Nat.le_refl _) (dp' := 4) (B' := 80) (by decide) (by decide)) (Vs.cons (s1.mono (Nat.le_refl _) (dp' := 4) (B' := 80) (by decide) (by decide)) nil0)))) le60).mono (Nat.le_refl _) (by decide) (by decide)
theorem vd_pair {p : Nat × Wd} (h1 : p.1 < 30) (h2 : WsOk p.2.w) : Vd 60 6 500 (pairD p) :=
  (Vd.tup (dp := 5) (Vs.cons (vd_small (B := 8) (by omega) (by omega) (by decide)) (Vs.cons (vd_wd h2) nil0)) le60).mono (Nat.le_refl _) (by decide) (by decide)
theorem repr_ok {sp : Nat} {l : Mv} (pd : Pend sp l) (h : Hh) : ∃ S, opBf .repr h [.tup (l.map pairD)] = some (.str S) := by
  have v := Vs.all (n := 60) (dp := 6) (B := 500) (xs := l.map pairD) fun x hx => by
    obtain ⟨p, hp, rfl⟩ := List.mem_map.mp hx
    exact vd_pair (pd.rng.k p hp) (pd.ok p hp)
  have len : (l.map pairD).length ≤ 28 := by rw [List.length_map]; exact pd.len
  have w := Vd.tup v (by omega)
  have b : (l.map pairD).length * (500 + 2) + 3 ≤ 16777216 := by omega
  exact ⟨_, (w.val (by decide) (by decide) b).repr⟩
end K51
end

section
set_option maxRecDepth 100000
set_option maxHeartbeats 3200000
/-! K51Q: one turn of the law. -/
namespace K51
open PySem PV
abbrev la (sc : D) (o2 o3 o4 o5 o6 o7 o8 o9 o10 o11 o12 o13 o14 : Option D) : PV.Env := [some sc, some (.ref 2), o2, o3, o4, o5, o6, o7, o8, o9, o10, o11, o12, o13, o14]
section
variable {P m n sp : Nat} {ns : List Int} {a b c : Int} {more : Hh} {sc : D} {l rs : Mv} {xs ds : List D} {o2 o3 o4 o5 o6 o7 o8 o9 o10 o11 o12 o13 o14 : Option D} {h : Hh}
abbrev pdD (l : Mv) : D := .tup (l.map pairD)
abbrev t1 : S := .unp [3, 4] (.call 8 (.cons (.var 1) .nil))
theorem t1_ok (i : FI n a b c) (hn : n < 2147400000) (hm : MO more) : ∃ sp l ns' a' b' c', evS (F P (m + 20)) (G P) t1 (la sc o2 o3 o4 o5 o6 o7 o8 o9 o10 o11 o12 o13 o14) (Fl P ns a b c more) = .nxt (la sc o2 (some (pdD l)) (some (iD sp)) o5 o6 o7 o8 o9 o10 o11 o12 o13 o14) (Fl P ns' a' b' c' more) ∧ Pend sp l ∧ FI (n + 300) a' b' c' := by
  obtain ⟨sp, l, ns', a', b', c', e, pd, i'⟩ := pending_ok (P := P) (m := m + 16) (ns := ns) i hn hm
  refine ⟨sp, l, ns', a', b', c', ?_, pd, i'⟩
  have e : C P (m + 20) 8 [.ref 2] (Fl P ns a b c more) = .ok (.lst [pdD l, iD sp]) (Fl P ns' a' b' c' more) := e
  simp -implicitDefEqProofs [e, Tg.put, setAll]
  rfl
abbrev t2 : S := .asgLc 5 (.new (e_law_0))
theorem t2_ok : evS (F P m) (G P) t2 (la sc o2 o3 o4 o5 o6 o7 o8 o9 o10 o11 o12 o13 o14) (Fl P ns a b c more) = .nxt (la sc o2 o3 o4 (some (.ref (more.length + 3))) o6 o7 o8 o9 o10 o11 o12 o13 o14) (Fl P ns a b c (more ++ [.lst regs0])) := by
  have lp := PW.lcMm (turn := lcTurn (.v 6) (evE (F P m) (G P) c_law_0) (evE (F P m) (G P) x_law_0) (la sc o2 o3 o4 o5 o6 o7 o8 o9 o10 o11 o12 o13 o14)) (h := Fl P ns a b c more) (acc := []) (zs := List.range 30) (fun k : Nat => D.int (k : Int)) reg0 fun k _ => by
    simp -implicitDefEqProofs [lcTurn, Tg.put]
  have rg : rngOk 0 30 = true := PW.rng_ok ⟨by decide, by decide⟩ ⟨by decide, by decide⟩
  have r30 : rngD 0 30 = (List.range 30).map fun k : Nat => D.int (k : Int) := l30
  have z : ((List.range 30).map fun k : Nat => D.int (k : Int)).length ≤ 16777216 := by rw [List.length_map, List.length_range]; decide
  have ei : evI (F P m) (G P) i_law_0 (la sc o2 o3 o4 o5 o6 o7 o8 o9 o10 o11 o12 o13 o14) (Fl P ns a b c more) = .ok ⟨(List.range 30).map fun k : Nat => D.int (k : Int), none⟩ (Fl P ns a b c more) := by
    simp -implicitDefEqProofs [rg, r30]
  have ev : (evE (F P m) (G P) e_law_0).v (la sc o2 o3 o4 o5 o6 o7 o8 o9 o10 o11 o12 o13 o14) (Fl P ns a b c more) = .ok (.lst regs0) (Fl P ns a b c more) := by
    rw [v_lcc, ei, bnd_ok]
    dsimp only
    rw [if_pos (show PV.sizeOk _ = true from decide_eq_true z)]
    exact lp
  rw [s_asgLc, v_new, ev, bnd_ok]
  rfl
abbrev t3 : S := .asg 7 (.new (.bf .list (.cons (.var 5) .nil)))
abbrev H2 (P : Nat) (ns : List Int) (a b c : Int) (more : Hh) (xs ds : List D) : Hh := Fl P ns a b c (more ++ [.lst xs, .lst ds])
theorem h2_0 : (H2 P ns a b c more xs ds)[more.length + 3]? = some (.lst xs) := fl_at (k := 0)
theorem h2_1 : (H2 P ns a b c more xs ds)[more.length + 3 + 1]? = some (.lst ds) := fl_at (k := 1)
theorem h2_s0 {s : Nat} {x : D} (hs : s < xs.length) : stoOp (.ref (more.length + 3)) (.int s) x (H2 P ns a b c more xs ds) = some (H2 P ns a b c more (xs.set s x) ds) := by
  show (match (H2 P ns a b c more xs ds)[more.length + 3]? with | some (.lst ys) => (match L2.ixN ys.length (s : Int) with | some j => some ((H2 P ns a b c more xs ds).set (more.length + 3) (.lst (ys.set j x))) | none => none) | some (.dct kvs) => _ | _ => none) = _
  rw [h2_0]
  dsimp only
  rw [ixN_nat hs]
  exact congrArg some (fl_set (k := 0))
theorem h2_s1 {s : Nat} {x : D} (hs : s < ds.length) : stoOp (.ref (more.length + 3 + 1)) (.int s) x (H2 P ns a b c more xs ds) = some (H2 P ns a b c more xs (ds.set s x)) := by
  show (match (H2 P ns a b c more xs ds)[more.length + 3 + 1]? with | some (.lst ys) => (match L2.ixN ys.length (s : Int) with | some j => some ((H2 P ns a b c more xs ds).set (more.length + 3 + 1) (.lst (ys.set j x))) | none => none) | some (.dct kvs) => _ | _ => none) = _
  rw [h2_1]
  dsimp only
  rw [ixN_nat hs]
  exact congrArg some (fl_set (k := 1))
theorem t3_ok : evS (F P m) (G P) t3 (la sc o2 o3 o4 (some (.ref (more.length + 3))) o6 o7 o8 o9 o10 o11 o12 o13 o14) (Fl P ns a b c (more ++ [.lst xs])) = .nxt (la sc o2 o3 o4 (some (.ref (more.length + 3))) o6 (some (.ref (more.length + 3 + 1))) o8 o9 o10 o11 o12 o13 o14) (H2 P ns a b c more xs xs) := by
  have e : opBf .list (Fl P ns a b c (more ++ [.lst xs])) [.ref (more.length + 3)] = some (.lst xs) := by
    show ((D.ref (more.length + 3)).seq (Fl P ns a b c (more ++ [.lst xs]))).map D.lst = _
    have : (D.ref (more.length + 3)).seq (Fl P ns a b c (more ++ [.lst xs])) = some xs := by
      show (match (Fl P ns a b c (more ++ [.lst xs]))[more.length + 3]? with | some (.lst xs) => some xs | _ => none) = _
      rw [show (Fl P ns a b c (more ++ [.lst xs]))[more.length + 3]? = some (.lst xs) from fl_at (k := 0)]
    rw [this]; rfl
  have ev : (evE (F P m) (G P) (.bf .list (.cons (.var 5) .nil))).v (la sc o2 o3 o4 (some (.ref (more.length + 3))) o6 o7 o8 o9 o10 o11 o12 o13 o14) (Fl P ns a b c (more ++ [.lst xs])) = .ok (.lst xs) (Fl P ns a b c (more ++ [.lst xs])) := by
    simp -implicitDefEqProofs [e]
  rw [s_asg, v_new, ev, bnd_ok]
  show RS.nxt ((la sc o2 o3 o4 (some (.ref (more.length + 3))) o6 o7 o8 o9 o10 o11 o12 o13 o14).set 7 (some (.ref (Fl P ns a b c (more ++ [.lst xs])).length))) (Fl P ns a b c (more ++ [.lst xs]) ++ [.lst xs]) = _
  have l1 : (Fl P ns a b c (more ++ [O.lst xs])).length = more.length + 3 + 1 := by rw [fl_len, List.length_append]; rfl
  rw [l1, fl_app, List.append_assoc]
  rfl
theorem lw_ok {r : Nat} {w : Wd} (e : h[r]? = some (.lst xs)) (hr : ∀ s, w.cr = some s → s < xs.length) : C P (m + 20) 6 [.ref r, w.d] h = .ok (val xs w) h := by
  obtain ⟨sh, w⟩ := w
  cases w with
  | reg s =>
    have hs : s < xs.length := hr s rfl
    have ix := PW.idx_lref e (s : Int)
    rw [L2.atI_nat (List.getElem?_eq_getElem hs)] at ix
    have v : val xs ⟨sh, .reg s⟩ = xs[s] := by
      show xs.getD s .non = _
      simp [List.getD_eq_getElem?_getD, hs]
    rw [v]
    exact lw_reg (m := m + 16) sh ix
  | int i => exact lw_int (m := m + 16) sh i r
  | lab i => exact lw_lab (m := m + 16) sh i r
abbrev t4 : S := .for_ (.tu [8, 9]) (.ev (.var 3)) (.cons (.sto (.var 7) (.var 8) (.call 6 (.cons (.var 5) (.cons (.var 9) .nil)))) .nil)
theorem t4_ok (pd : Pend sp l) (hx : xs.length = 30) : ∃ o8' o9', evS (F P (m + 20)) (G P) t4 (la sc o2 (some (pdD l)) o4 (some (.ref (more.length + 3))) o6 (some (.ref (more.length + 3 + 1))) o8 o9 o10 o11 o12 o13 o14) (H2 P ns a b c more xs xs) =
    .nxt (la sc o2 (some (pdD l)) o4 (some (.ref (more.length + 3))) o6 (some (.ref (more.length + 3 + 1))) o8' o9' o10 o11 o12 o13 o14) (H2 P ns a b c more xs (dues xs xs l)) := by
  have lp : ∃ ρ' h', forLoop (fun _ => true) (.tu [8, 9]) (evSs (F P (m + 20)) (G P) (.cons (.sto (.var 7) (.var 8) (.call 6 (.cons (.var 5) (.cons (.var 9) .nil)))) .nil)) (l.map pairD) (la sc o2 (some (pdD l)) o4 (some (.ref (more.length + 3))) o6 (some (.ref (more.length + 3 + 1))) o8 o9 o10 o11 o12 o13 o14) (H2 P ns a b c more xs xs) = .nxt ρ' h' ∧
      ∃ o8' o9' l1 l2, ρ' = la sc o2 (some (pdD l)) o4 (some (.ref (more.length + 3))) o6 (some (.ref (more.length + 3 + 1))) o8' o9' o10 o11 o12 o13 o14 ∧ l = l1 ++ l2 ∧ l.map pairD = l1.map pairD ∧ h' = H2 P ns a b c more xs (dues xs xs l1) := by
    refine PW.forP (fun done ρ h => ∃ o8' o9' l1 l2, ρ = la sc o2 (some (pdD l)) o4 (some (.ref (more.length + 3))) o6 (some (.ref (more.length + 3 + 1))) o8' o9' o10 o11 o12 o13 o14 ∧ l = l1 ++ l2 ∧ done = l1.map pairD ∧ h = H2 P ns a b c more xs (dues xs xs l1)) (all := l.map pairD) (fun d x r e ρ h => ?_) (done := []) rfl ⟨o8, o9, [], l, rfl, rfl, rfl, rfl⟩
    rintro ⟨o8', o9', l1, l2, rfl, el, rfl, rfl⟩
    have e2 : x :: r = l2.map pairD := by
      have e0 : List.map pairD l1 ++ x :: r = (l1 ++ l2).map pairD := by rw [← el]; exact e
      rw [List.map_append] at e0
      exact List.append_cancel_left e0
    cases l2 with
    | nil => cases e2
    | cons p l2 =>
      rw [List.map_cons] at e2
      injection e2 with ex er
      subst ex
      have hp : p ∈ l := by rw [el]; simp
      have lw := lw_ok (P := P) (m := m) (r := more.length + 3) (w := p.2) (h2_0 (P := P) (ns := ns) (a := a) (b := b) (c := c) (more := more) (xs := xs) (ds := dues xs xs l1)) fun s hs => by rw [hx]; exact pd.rng.r p hp s hs
      have st := h2_s1 (P := P) (ns := ns) (a := a) (b := b) (c := c) (more := more) (xs := xs) (ds := dues xs xs l1) (s := p.1) (x := val xs p.2) (by rw [dues_len, hx]; exact pd.rng.k p hp)
      rw [← dues_app] at st
      refine ⟨_, _, _, rfl, ?_, some (.int p.1), some p.2.d, l1 ++ [p], l2, rfl, by rw [el]; simp, by simp, rfl⟩
      show evSs _ _ _ (la sc o2 (some (pdD l)) o4 (some (.ref (more.length + 3))) o6 (some (.ref (more.length + 3 + 1))) (some (.int p.1)) (some p.2.d) o10 o11 o12 o13 o14) _ = _
      simp -implicitDefEqProofs [lw, st]
  obtain ⟨ρ', h', e, o8', o9', l1, l2, rfl, el, e2, rfl⟩ := lp
  have nil2 : l2 = [] := by
    have := congrArg List.length e2
    rw [List.length_map, List.length_map, el, List.length_append] at this
    (exact List.length_eq_zero_iff.mp (by omega))
  subst nil2
  rw [List.append_nil] at el
  subst el
  refine ⟨o8', o9', ?_⟩
  rw [s_for]
  have ei : evI (F P (m + 20)) (G P) (.ev (.var 3)) (la sc o2 (some (pdD l)) o4 (some (.ref (more.length + 3))) o6 (some (.ref (more.length + 3 + 1))) o8 o9 o10 o11 o12 o13 o14) (H2 P ns a b c more xs xs) = .ok ⟨l.map pairD, none⟩ (H2 P ns a b c more xs xs) := by
    simp -implicitDefEqProofs
  rw [ei, thn_ok]
  exact e
abbrev t5 : S := .asg 10 (.bf .repr (.cons (.var 3) .nil))
theorem t5_ok {S0 : Str} (e : opBf .repr h [pdD l] = some (.str S0)) : evS (F P m) (G P) t5 (la sc o2 (some (pdD l)) o4 o5 o6 o7 o8 o9 o10 o11 o12 o13 o14) h = .nxt (la sc o2 (some (pdD l)) o4 o5 o6 o7 o8 o9 (some (.str S0)) o11 o12 o13 o14) h := by
  simp -implicitDefEqProofs [e]
abbrev rwD (rs : Mv) : D := .lst (rs.map rowD)
abbrev t6 : S := .asg 11 (.call 2 (.cons (.var 3) (.cons (.var 4) .nil)))
theorem t6_ok (e : C P (m + 20) 2 [pdD l, iD sp] h = .ok (rwD rs) h) : evS (F P (m + 20)) (G P) t6 (la sc o2 (some (pdD l)) (some (iD sp)) o5 o6 o7 o8 o9 o10 o11 o12 o13 o14) h = .nxt (la sc o2 (some (pdD l)) (some (iD sp)) o5 o6 o7 o8 o9 o10 (some (rwD rs)) o12 o13 o14) h := by
  simp -implicitDefEqProofs [e]
abbrev t7 : S := .ite (.not (.call 5 (.cons (.callK 2 (.nil) (.cons (.var 4) (.cons (.var 3) .nil)) [1, 0]) (.cons (.var 11) .nil)))) (.cons (.ret (.con (.bl false))) .nil) (.nil)
theorem t7_ok (e : C P (m + 20) 2 [pdD l, iD sp] h = .ok (rwD rs) h) (e2 : C P (m + 20) 5 [rwD rs, rwD rs] h = .ok (.bl true) h) : evS (F P (m + 20)) (G P) t7 (la sc o2 (some (pdD l)) (some (iD sp)) o5 o6 o7 o8 o9 o10 (some (rwD rs)) o12 o13 o14) h = .nxt (la sc o2 (some (pdD l)) (some (iD sp)) o5 o6 o7 o8 o9 o10 (some (rwD rs)) o12 o13 o14) h := by
  have pm : pmD D.non [1, 0] [] [iD sp, pdD l] = [pdD l, iD sp] := rfl
  simp -implicitDefEqProofs [pm, e, e2]
abbrev t8 : S := .ite (.or (.not (.isi (.var 11) .lst)) (.cons (.cmp .gt (.bin .mul (.con (.int 2)) (.bf .len (.cons (.var 11) .nil))) (.bin .mul (.con (.int 3)) (.bf .len (.cons (.var 3) .nil)))) (.cons (.cmp .ne (.bf .repr (.cons (.var 3) .nil)) (.var 10)) .nil))) (.cons (.ret (.con (.bl false))) .nil) (.nil)
theorem t8_ok {S0 : Str} (e : opBf .repr h [pdD l] = some (.str S0)) (hz : 2 * rs.length ≤ 3 * l.length) : evS (F P m) (G P) t8 (la sc o2 (some (pdD l)) o4 o5 o6 o7 o8 o9 (some (.str S0)) (some (rwD rs)) o12 o13 o14) h = .nxt (la sc o2 (some (pdD l)) o4 o5 o6 o7 o8 o9 (some (.str S0)) (some (rwD rs)) o12 o13 o14) h := by
  have c1 : (rwD rs).isO h = false := rfl
  have c2 : opIsi .lst h (rwD rs) = true := rfl
  have c3 : ¬ (3 * (l.length : Int) < 2 * (rs.length : Int)) := by omega
  simp -implicitDefEqProofs [c1, c2, mul_c, e, c3]
abbrev t9 : S := .asg 12 (.bin .add (e_law_1) (.lst (.cons (.var 4) .nil)))
theorem t9_ok (hl : l.length ≤ 28) : evS (F P m) (G P) t9 (la sc o2 (some (pdD l)) (some (iD sp)) o5 o6 o7 o8 o9 o10 o11 o12 o13 o14) h = .nxt (la sc o2 (some (pdD l)) (some (iD sp)) o5 o6 o7 o8 o9 o10 o11 (some (lstN (l.map (·.1) ++ [sp]))) o13 o14) h := by
  have lp := PW.lcMm (turn := lcTurn (.v 13) (evE (F P m) (G P) c_law_1) (evE (F P m) (G P) x_law_1) (la sc o2 (some (pdD l)) (some (iD sp)) o5 o6 o7 o8 o9 o10 o11 o12 o13 o14)) (h := h) (acc := []) (zs := l) pairD (fun p => iD p.1) fun p _ => by
    simp -implicitDefEqProofs [lcTurn, Tg.put, pairD]
  have z : (l.map pairD).length ≤ 16777216 := by rw [List.length_map]; omega
  have ei : evI (F P m) (G P) i_law_1 (la sc o2 (some (pdD l)) (some (iD sp)) o5 o6 o7 o8 o9 o10 o11 o12 o13 o14) h = .ok ⟨l.map pairD, none⟩ h := by
    simp -implicitDefEqProofs
  have ev : (evE (F P m) (G P) e_law_1).v (la sc o2 (some (pdD l)) (some (iD sp)) o5 o6 o7 o8 o9 o10 o11 o12 o13 o14) h = .ok (.lst (l.map fun p => iD p.1)) h := by
    rw [v_lcc, ei, bnd_ok]
    dsimp only
    rw [if_pos (show PV.sizeOk _ = true from decide_eq_true z)]
    exact lp
  have ad : opBin .add h (.lst (l.map fun p => iD p.1)) (.lst [iD sp]) = some (lstN (l.map (·.1) ++ [sp])) := by
    rw [bin_addL, if_pos (show PV.sizeOk _ = true from decide_eq_true (by rw [List.length_map]; simp; omega)), lstN, List.map_append, List.map_map]
    rfl
  rw [s_asg, v_bin, ev, bnd_ok]
  have e2 : (evE (F P m) (G P) (.lst (.cons (.var 4) .nil))).v (la sc o2 (some (pdD l)) (some (iD sp)) o5 o6 o7 o8 o9 o10 o11 o12 o13 o14) h = .ok (.lst [iD sp]) h := by
    simp -implicitDefEqProofs
  rw [e2, bnd_ok, ad]
  rfl
end
end K51
end

section
set_option maxRecDepth 100000
set_option maxHeartbeats 3200000
/-! K51R: the law. -/
namespace K51
open PySem PV
section
variable {P m n sp : Nat} {ns : List Int} {a b c : Int} {more : Hh} {sc : D} {l rs : Mv} {xs ds : List D} {o2 o3 o4 o5 o6 o7 o8 o9 o10 o11 o12 o13 o14 : Option D} {h : Hh}
abbrev rb : Ss := .cons (.ite (.or (.not (.isi (.var 14) .tup)) (.cons (.cmp .ne (.bf .len (.cons (.var 14) .nil)) (.con (.int 3))) (.cons (.cmp .ne (.idx (.var 14) (.con (.int 0))) (.con (.str "move"))) (.cons (.cmp .nin (.idx (.var 14) (.con (.int 1))) (.var 12)) .nil)))) (.cons (.ret (.con (.bl false))) .nil) (.nil)) (.cons (.sto (.var 5) (.idx (.var 14) (.con (.int 1))) (.call 6 (.cons (.var 5) (.cons (.idx (.var 14) (.con (.int 2))) .nil)))) .nil)
theorem nin_ks {ks : List Nat} {k : Nat} (hk : k ∈ ks) : opCmp .nin h (iD k) (lstN ks) = some false := by
  have := cmp_nin (h := h) (ks.map some) k
  rw [List.map_map] at this
  have e : (ks.map (crD ∘ some)) = ks.map iD := rfl
  rw [e] at this
  have m : decide (some k ∉ ks.map some) = false := decide_eq_false fun q => q (List.mem_map.mpr ⟨k, hk, rfl⟩)
  rw [m] at this
  exact this
theorem rb_ok {p : Nat × Wd} {ks : List Nat} (hx : xs.length = 30) (hk : p.1 ∈ ks) (h1 : p.1 < 30) (h2 : ∀ s, p.2.cr = some s → s < 30) : evSs (F P (m + 20)) (G P) rb (la sc o2 o3 o4 (some (.ref (more.length + 3))) o6 o7 o8 o9 o10 o11 (some (lstN ks)) o13 (some (rowD p))) (H2 P ns a b c more xs ds) =
    .nxt (la sc o2 o3 o4 (some (.ref (more.length + 3))) o6 o7 o8 o9 o10 o11 (some (lstN ks)) o13 (some (rowD p))) (H2 P ns a b c more (xs.set p.1 (val xs p.2)) ds) := by
  have lw := lw_ok (P := P) (m := m) (r := more.length + 3) (w := p.2) (h2_0 (P := P) (ns := ns) (a := a) (b := b) (c := c) (more := more) (xs := xs) (ds := ds)) fun s hs => by rw [hx]; exact h2 s hs
  have st := h2_s0 (P := P) (ns := ns) (a := a) (b := b) (c := c) (more := more) (xs := xs) (ds := ds) (s := p.1) (x := val xs p.2) (by rw [hx]; exact h1)
  have ni := nin_ks (h := H2 P ns a b c more xs ds) hk
  have c1 : (D.tup [.str "move", iD p.1, p.2.d]).isO (H2 P ns a b c more xs ds) = false := rfl
  have c2 : opIsi .tup (H2 P ns a b c more xs ds) (D.tup [.str "move", iD p.1, p.2.d]) = true := rfl
  show evSs _ _ _ (la sc o2 o3 o4 (some (.ref (more.length + 3))) o6 o7 o8 o9 o10 o11 (some (lstN ks)) o13 (some (D.tup [.str "move", iD p.1, p.2.d]))) _ = RS.nxt (la sc o2 o3 o4 (some (.ref (more.length + 3))) o6 o7 o8 o9 o10 o11 (some (lstN ks)) o13 (some (D.tup [.str "move", iD p.1, p.2.d]))) _
  simp -implicitDefEqProofs [c1, c2, ni, lw, st]
abbrev t10 : S := .for_ (.v 14) (.ev (.var 11)) rb
theorem t10_ok {ks : List Nat} (hx : xs.length = 30) (hr : ∀ p ∈ rs, p.1 ∈ ks ∧ p.1 < 30 ∧ ∀ s, p.2.cr = some s → s < 30) : ∃ o14', evS (F P (m + 20)) (G P) t10 (la sc o2 o3 o4 (some (.ref (more.length + 3))) o6 o7 o8 o9 o10 (some (rwD rs)) (some (lstN ks)) o13 o14) (H2 P ns a b c more xs ds) =
    .nxt (la sc o2 o3 o4 (some (.ref (more.length + 3))) o6 o7 o8 o9 o10 (some (rwD rs)) (some (lstN ks)) o13 o14') (H2 P ns a b c more (exec xs rs) ds) := by
  have lp : ∃ ρ' h', forLoop (fun _ => true) (.v 14) (evSs (F P (m + 20)) (G P) rb) (rs.map rowD) (la sc o2 o3 o4 (some (.ref (more.length + 3))) o6 o7 o8 o9 o10 (some (rwD rs)) (some (lstN ks)) o13 o14) (H2 P ns a b c more xs ds) = .nxt ρ' h' ∧
      ∃ o14' l1 l2, ρ' = la sc o2 o3 o4 (some (.ref (more.length + 3))) o6 o7 o8 o9 o10 (some (rwD rs)) (some (lstN ks)) o13 o14' ∧ rs = l1 ++ l2 ∧ rs.map rowD = l1.map rowD ∧ h' = H2 P ns a b c more (exec xs l1) ds := by
    refine PW.forP (fun done ρ h => ∃ o14' l1 l2, ρ = la sc o2 o3 o4 (some (.ref (more.length + 3))) o6 o7 o8 o9 o10 (some (rwD rs)) (some (lstN ks)) o13 o14' ∧ rs = l1 ++ l2 ∧ done = l1.map rowD ∧ h = H2 P ns a b c more (exec xs l1) ds) (all := rs.map rowD) (fun d x r e ρ h => ?_) (done := []) rfl ⟨o14, [], rs, rfl, rfl, rfl, rfl⟩
    rintro ⟨o14', l1, l2, rfl, el, rfl, rfl⟩
    have e2 : x :: r = l2.map rowD := by
      have e0 : List.map rowD l1 ++ x :: r = (l1 ++ l2).map rowD := by rw [← el]; exact e
      rw [List.map_append] at e0
      exact List.append_cancel_left e0
    cases l2 with
    | nil => cases e2
    | cons p l2 =>
      rw [List.map_cons] at e2
      injection e2 with ex er
      subst ex
      have hp : p ∈ rs := by rw [el]; simp
      obtain ⟨g1, g2, g3⟩ := hr p hp
      have st := rb_ok (P := P) (m := m) (ns := ns) (a := a) (b := b) (c := c) (more := more) (sc := sc) (o2 := o2) (o3 := o3) (o4 := o4) (o6 := o6) (o7 := o7) (o8 := o8) (o9 := o9) (o10 := o10) (o11 := some (rwD rs)) (o13 := o13) (xs := exec xs l1) (ds := ds) (ks := ks) (by rw [exec_len, hx]) g1 g2 g3
      rw [← exec_app] at st
      exact ⟨_, _, _, rfl, st, some (rowD p), l1 ++ [p], l2, rfl, by rw [el]; simp, by simp, rfl⟩
  obtain ⟨ρ', h', e, o14', l1, l2, rfl, el, e2, rfl⟩ := lp
  have nil2 : l2 = [] := by
    have := congrArg List.length e2
    rw [List.length_map, List.length_map, el, List.length_append] at this
    (exact List.length_eq_zero_iff.mp (by omega))
  subst nil2
  rw [List.append_nil] at el
  subst el
  refine ⟨o14', ?_⟩
  rw [s_for]
  have ei : evI (F P (m + 20)) (G P) (.ev (.var 11)) (la sc o2 o3 o4 (some (.ref (more.length + 3))) o6 o7 o8 o9 o10 (some (rwD rs)) (some (lstN ks)) o13 o14) (H2 P ns a b c more xs ds) = .ok ⟨rs.map rowD, none⟩ (H2 P ns a b c more xs ds) := by
    simp -implicitDefEqProofs
  rw [ei, thn_ok]
  exact e
abbrev t11 : S := .sto (.var 5) (.var 4) (.idx (.var 7) (.var 4))
theorem t11_ok (hx : xs.length = 30) (hd : ds.length = 30) (hs : sp < 30) : evS (F P m) (G P) t11 (la sc o2 o3 (some (iD sp)) (some (.ref (more.length + 3))) o6 (some (.ref (more.length + 3 + 1))) o8 o9 o10 o11 o12 o13 o14) (H2 P ns a b c more xs ds) =
    .nxt (la sc o2 o3 (some (iD sp)) (some (.ref (more.length + 3))) o6 (some (.ref (more.length + 3 + 1))) o8 o9 o10 o11 o12 o13 o14) (H2 P ns a b c more (xs.set sp (ds.getD sp .non)) ds) := by
  have ix := PW.idx_lref (h2_1 (P := P) (ns := ns) (a := a) (b := b) (c := c) (more := more) (xs := xs) (ds := ds)) (sp : Int)
  have g : ds[sp]? = some (ds.getD sp .non) := by
    rw [List.getD_eq_getElem?_getD, List.getElem?_eq_getElem (by omega)]
    rfl
  rw [L2.atI_nat g] at ix
  have st := h2_s0 (P := P) (ns := ns) (a := a) (b := b) (c := c) (more := more) (xs := xs) (ds := ds) (s := sp) (x := ds.getD sp .non) (by omega)
  generalize ds.getD sp .non = y at ix st ⊢
  simp -implicitDefEqProofs [ix, st]
abbrev t12 : S := .ite (.not (.call 5 (.cons (.var 5) (.cons (.var 7) .nil)))) (.cons (.ret (.con (.bl false))) .nil) (.nil)
theorem t12_ok {r s : Nat} (e : C P (m + 20) 5 [.ref r, .ref s] h = .ok (.bl true) h) : evS (F P (m + 20)) (G P) t12 (la sc o2 o3 o4 (some (.ref r)) o6 (some (.ref s)) o8 o9 o10 o11 o12 o13 o14) h = .nxt (la sc o2 o3 o4 (some (.ref r)) o6 (some (.ref s)) o8 o9 o10 o11 o12 o13 o14) h := by
  simp -implicitDefEqProofs [e]
theorem nc_wd (w : Wd) : PW.Nc 5 w.d := by
  have v : PW.Nc 1 (.tup [.str "var", .int 0]) := (pl_ws (.int 0)).1 |> fun _ => .tup (show 2 ≤ 1000000 by decide) fun x hx => by
    (simp only [List.mem_cons, List.not_mem_nil, or_false] at hx)
    rcases hx with rfl | rfl
    · exact .str _
    · exact .int _
  have two : ∀ {n : Nat} {x : D} (s : Str), PW.Nc n x → PW.Nc (n + 1) (.tup [.str s, x]) := fun {n x} s hx => .tup (show 2 ≤ 1000000 by decide) fun y hy => by
    simp only [List.mem_cons, List.not_mem_nil, or_false] at hy
    rcases hy with rfl | rfl
    · exact .str _
    · exact hx
  have three : ∀ {n : Nat} {x y : D} (s : Str), PW.Nc n x → PW.Nc n y → PW.Nc (n + 1) (.tup [.str s, x, y]) := fun {n x y} s hx hy => .tup (show 3 ≤ 1000000 by decide) fun z hz => by
    simp only [List.mem_cons, List.not_mem_nil, or_false] at hz
    rcases hz with rfl | rfl | rfl
    · exact .str _
    · exact hx
    · exact hy
  have kd : PW.Nc 3 kindD := two _ (two _ v)
  have i1 : PW.Nc 1 (.tup [.str "int"]) := .tup (show 1 ≤ 1000000 by decide) fun x hx => by
    (simp only [List.mem_cons, List.not_mem_nil, or_false] at hx)
    subst hx
    exact .str _
  obtain ⟨sh, w⟩ := w
  have hw : PW.Nc 1 w.d := (pl_ws w).1
  cases sh with
  | p => exact hw.up 5 (by decide)
  | fo => exact (three _ kd (hw.up 3 (by decide))).up 5 (by decide)
  | un => exact (two _ hw).up 5 (by decide)
  | at_ => exact three _ (hw.up 4 (by decide)) (.tup (show 2 ≤ 1000000 by decide) fun x hx => by
      (simp only [List.mem_cons, List.not_mem_nil, or_false] at hx)
      rcases hx with rfl | rfl
      · exact i1.up 3 (by decide)
      · exact kd)
  | hi =>
    exact .tup (show 4 ≤ 1000000 by decide) fun x hx => by
      (simp only [List.mem_cons, List.not_mem_nil, or_false] at hx)
      rcases hx with rfl | rfl | rfl | rfl
      · exact .str _
      · exact i1.up 4 (by decide)
      · exact (two _ hw).up 4 (by decide)
      · exact (two _ v).up 4 (by decide)
theorem nc_rows (hz : rs.length ≤ 1000) : PW.Nc 7 (rwD rs) := .lst (by rw [List.length_map]; omega) fun x hx => by
  obtain ⟨p, _, rfl⟩ := List.mem_map.mp hx
  exact .tup (show 3 ≤ 1000000 by decide) fun x hx => by
    (simp only [List.mem_cons, List.not_mem_nil, or_false] at hx)
    rcases hx with rfl | rfl | rfl
    · exact .str _
    · exact .int _
    · exact nc_wd _
abbrev tB : Ss := .cons t1 (.cons t2 (.cons t3 (.cons t4 (.cons t5 (.cons t6 (.cons t7 (.cons t8 (.cons t9 (.cons t10 (.cons t11 (.cons t12 .nil)))))))))))
theorem turn_ok (i : FI n a b c) (hn : n < 2147400000) (hm : MO more) : ∃ p3 p4 p5 p6 p7 p8 p9 p10 p11 p12 p13 p14 more' ns' a' b' c', evSs (F P (m + 20)) (G P) tB (la sc o2 o3 o4 o5 o6 o7 o8 o9 o10 o11 o12 o13 o14) (Fl P ns a b c more) = .nxt (la sc o2 p3 p4 p5 p6 p7 p8 p9 p10 p11 p12 p13 p14) (Fl P ns' a' b' c' more') ∧ MO more' ∧ FI (n + 300) a' b' c' := by
  obtain ⟨sp, l, ns', a', b', c', e1, pd, i'⟩ := t1_ok (P := P) (m := m) (ns := ns) (sc := sc) (o2 := o2) (o3 := o3) (o4 := o4) (o5 := o5) (o6 := o6) (o7 := o7) (o8 := o8) (o9 := o9) (o10 := o10) (o11 := o11) (o12 := o12) (o13 := o13) (o14 := o14) i hn hm
  have l0 : regs0.length = 30 := by rw [List.length_map, List.length_range]
  have dl : (dues regs0 regs0 l).length = 30 := by rw [dues_len, l0]
  -- the moves
  have kl : (l.filter keep).length ≤ l.length := List.length_filter_le _ _
  have a2 : Asc sp (l.filter keep) := ⟨pd.asc.lt.sublist (List.filter_sublist.map _), fun h => by
    (obtain ⟨p, hp, e⟩ := List.mem_map.mp h)
    exact pd.asc.sp (List.mem_map.mpr ⟨p, (List.mem_filter.mp hp).1, e⟩)⟩
  have g2 : Rng 30 sp (l.filter keep) := ⟨pd.rng.sp, fun p hp => pd.rng.k p (List.mem_filter.mp hp).1, fun p hp => pd.rng.r p (List.mem_filter.mp hp).1⟩
  have len := pd.len
  obtain ⟨rs, hr, hz, hz2⟩ := run_ex _ (l.filter keep) (Nat.le_refl _) a2
  have rr := run_rows hr g2
  obtain ⟨S0, hS⟩ := repr_ok pd (H2 P ns' a' b' c' more regs0 (dues regs0 regs0 l))
  have mo : MO (more ++ [.lst regs0, .lst (dues regs0 regs0 l)]) := hm.app (MO.two (pl_rlts pl_regs0) (pl_rlts (pl_dues pl_regs0 l _ pl_regs0)))
  have mv : C P (m + 20) 2 [pdD l, iD sp] (H2 P ns' a' b' c' more regs0 (dues regs0 regs0 l)) = .ok (rwD rs) (H2 P ns' a' b' c' more regs0 (dues regs0 regs0 l)) :=
    moved_ok (P := P) (m := m + 14) pd.asc (by omega) hr (by omega) (fl_rlt mo (by rw [fl_len]; omega))
  have sm : C P (m + 20) 5 [rwD rs, rwD rs] (H2 P ns' a' b' c' more regs0 (dues regs0 regs0 l)) = .ok (.bl true) (H2 P ns' a' b' c' more regs0 (dues regs0 regs0 l)) :=
    same_ok (P := P) (nc_rows (by omega)) (m := m + 12)
  obtain ⟨o8', o9', e4⟩ := t4_ok (P := P) (m := m) (ns := ns') (a := a') (b := b') (c := c') (more := more) (sc := sc) (o2 := o2) (o4 := some (iD sp)) (o6 := o6) (o8 := o8) (o9 := o9) (o10 := o10) (o11 := o11) (o12 := o12) (o13 := o13) (o14 := o14) (xs := regs0) pd l0
  obtain ⟨o14', e10⟩ := t10_ok (P := P) (m := m) (ns := ns') (a := a') (b := b') (c := c') (more := more) (sc := sc) (o2 := o2) (o3 := some (pdD l)) (o4 := some (iD sp)) (o6 := o6) (o7 := some (.ref (more.length + 3 + 1))) (o8 := o8') (o9 := o9') (o10 := some (.str S0)) (o13 := o13) (o14 := o14) (xs := regs0) (ds := dues regs0 regs0 l) (rs := rs) (ks := l.map (·.1) ++ [sp]) l0 fun p hp => by
    obtain ⟨h1, h2⟩ := rr p hp
    refine ⟨?_, ?_, h2⟩
    · rcases h1 with h1 | h1
      · obtain ⟨q, hq, e⟩ := List.mem_map.mp h1
        exact List.mem_append_left _ (List.mem_map.mpr ⟨q, (List.mem_filter.mp hq).1, e⟩)
      · rw [h1]; exact List.mem_append_right _ List.mem_cons_self
    · rcases h1 with h1 | h1
      · obtain ⟨q, hq, e⟩ := List.mem_map.mp h1
        rw [← e]; exact g2.k q hq
      · rw [h1]; exact g2.sp
  have fin := all_due pd hr
  have pe := pl_dues pl_regs0 l regs0 pl_regs0
  have sr : C P (m + 20) 5 [.ref (more.length + 3), .ref (more.length + 3 + 1)] (H2 P ns' a' b' c' more (dues regs0 regs0 l) (dues regs0 regs0 l)) = .ok (.bl true) (H2 P ns' a' b' c' more (dues regs0 regs0 l) (dues regs0 regs0 l)) :=
    same_ref (P := P) (m := m + 17) (n := 1) (by omega) h2_0 h2_1 fun x hx => (pe x hx).1
  have e11 := t11_ok (P := P) (m := m + 20) (ns := ns') (a := a') (b := b') (c := c') (more := more) (sc := sc) (sp := sp) (o2 := o2) (o3 := some (pdD l)) (o6 := o6) (o8 := o8') (o9 := o9') (o10 := some (.str S0)) (o11 := some (rwD rs)) (o12 := some (lstN (l.map (·.1) ++ [sp]))) (o13 := o13) (o14 := o14') (xs := exec regs0 rs) (ds := dues regs0 regs0 l) (by rw [exec_len, l0]) dl pd.rng.sp
  rw [fin] at e11
  refine ⟨some (pdD l), some (iD sp), some (.ref (more.length + 3)), o6, some (.ref (more.length + 3 + 1)), o8', o9', some (.str S0), some (rwD rs), some (lstN (l.map (·.1) ++ [sp])), o13, o14', more ++ [.lst (dues regs0 regs0 l), .lst (dues regs0 regs0 l)], ns', a', b', c', ?_, hm.app (MO.two (pl_rlts pe) (pl_rlts pe)), i'⟩
  rw [s_cons, e1, sthn_nxt, s_cons, t2_ok, sthn_nxt, s_cons, t3_ok, sthn_nxt, s_cons, e4, sthn_nxt, s_cons, t5_ok hS, sthn_nxt, s_cons, t6_ok mv, sthn_nxt, s_cons, t7_ok mv sm, sthn_nxt, s_cons, t8_ok hS (by omega), sthn_nxt, s_cons, t9_ok len, sthn_nxt, s_cons, e10, sthn_nxt, s_cons, e11, sthn_nxt, s_cons, t12_ok sr, sthn_nxt, s_nil]
end
end K51
end

section
set_option maxRecDepth 100000
set_option maxHeartbeats 3200000
/-! K51U: the law holds of every script. -/
namespace K51
open PySem PV
variable {P m : Nat}
theorem flow_ok (ns : List Int) : C P (m + 1) 3 [.fz (ns.map .int)] [.tb P lamQ] = .ok (.ref 2) (Fl P ns 0 11 0 []) := by
  have e : opBf .list [O.tb P lamQ] [.fz (ns.map .int)] = some (.lst (ns.map .int)) := rfl
  have c := C__law_flow P m (.fz (ns.map .int)) [.tb P lamQ]
  refine c.trans ?_
  have ev : (evE (F P m) (G P) (.new (.bf .list (.cons (.var 0) .nil)))).v [some (.fz (ns.map .int))] [.tb P lamQ] = .ok (.ref 1) [.tb P lamQ, .lst (ns.map .int)] := by
    have e1 : (evE (F P m) (G P) (.bf .list (.cons (.var 0) .nil))).v [some (.fz (ns.map .int))] [.tb P lamQ] = .ok (.lst (ns.map .int)) [.tb P lamQ] := by
      simp -implicitDefEqProofs [e]
    rw [v_new, e1, bnd_ok]
    rfl
  have ev2 : (evE (F P m) (G P) (.new (.lst (.cons (.new (.bf .list (.cons (.var 0) .nil))) (.cons (.con (.int 0)) (.cons (.con (.int 11)) (.cons (.con (.int 0)) .nil))))))).v [some (.fz (ns.map .int))] [.tb P lamQ] = .ok (.ref 2) (Fl P ns 0 11 0 []) := by
    rw [v_new, v_lst', l_cons, ev]
    rfl
  show finR false _ (evSs _ _ (.cons (.ret _) .nil) _ _) = _
  rw [s_cons, s_ret, ev2, thn_ok, sthn_ret, finR_ret]
abbrev lf : S := .for_ (.v 2) (.rng (.bin .add (.con (.int 6)) (.bf .min2 (.cons (.con (.int 20)) (.cons (.bf .len (.cons (.var 0) .nil)) .nil))))) tB
theorem law_ev (ns : List Int) (hn : ns.length ≤ 63) : ∃ h, C P (m + 60) n_law [.fz (ns.map .int)] [.tb P lamQ] = .ok (.bl true) h := by
  have fo := flow_ok (P := P) (m := m + 58) ns
  obtain ⟨r, hr, er⟩ : ∃ r : Nat, r ≤ 26 ∧ ∀ h : Hh, evI (F P (m + 59)) (G P) (.rng (.bin .add (.con (.int 6)) (.bf .min2 (.cons (.con (.int 20)) (.cons (.bf .len (.cons (.var 0) .nil)) .nil))))) (la (.fz (ns.map .int)) none none none none none none none none none none none none none) h = .ok ⟨rngs r, none⟩ h := by
    have mn : ∀ h : Hh, opBf .min2 h [.int 20, .int (ns.length : Int)] = some (.int (if (ns.length : Int) < 20 then (ns.length : Int) else 20)) := fun h => rfl
    by_cases q : (ns.length : Int) < 20
    · refine ⟨6 + ns.length, by omega, fun h => ?_⟩
      have mn := mn h
      rw [if_pos q] at mn
      have rg : rngOk 0 (6 + (ns.length : Int)) = true := PW.rng_ok ⟨by decide, by decide⟩ ⟨by omega, by omega⟩
      have rn : rngD 0 (6 + (ns.length : Int)) = rngs (6 + ns.length) := by
        rw [show (6 + (ns.length : Int)) = ((6 + ns.length : Nat) : Int) by omega]
        exact PW.rngD_nat _
      simp -implicitDefEqProofs [mn, rg, rn]
    · refine ⟨26, by omega, fun h => ?_⟩
      have mn := mn h
      rw [if_neg q] at mn
      have rg : rngOk 0 26 = true := PW.rng_ok ⟨by decide, by decide⟩ ⟨by decide, by decide⟩
      have rn : rngD 0 26 = rngs 26 := PW.rngD_nat 26
      simp -implicitDefEqProofs [mn, rg, rn]
  have lp : ∃ ρ' h', forLoop (fun _ => true) (.v 2) (evSs (F P (m + 59)) (G P) tB) (rngs r) (la (.fz (ns.map .int)) none none none none none none none none none none none none none) (Fl P ns 0 11 0 []) = .nxt ρ' h' ∧
      ∃ p2 p3 p4 p5 p6 p7 p8 p9 p10 p11 p12 p13 p14 more ns' a' b' c', ρ' = la (.fz (ns.map .int)) p2 p3 p4 p5 p6 p7 p8 p9 p10 p11 p12 p13 p14 ∧ h' = Fl P ns' a' b' c' more ∧ MO more ∧ FI (300 * (rngs r).length) a' b' c' := by
    refine PW.forP (fun done ρ h => ∃ p2 p3 p4 p5 p6 p7 p8 p9 p10 p11 p12 p13 p14 more ns' a' b' c', ρ = la (.fz (ns.map .int)) p2 p3 p4 p5 p6 p7 p8 p9 p10 p11 p12 p13 p14 ∧ h = Fl P ns' a' b' c' more ∧ MO more ∧ FI (300 * done.length) a' b' c') (all := rngs r) (fun d x t e ρ h => ?_) (done := []) rfl
      ⟨none, none, none, none, none, none, none, none, none, none, none, none, none, [], ns, 0, 11, 0, rfl, rfl, rfl, ⟨by decide, by decide, by decide, by decide, by decide⟩⟩
    rintro ⟨p2, p3, p4, p5, p6, p7, p8, p9, p10, p11, p12, p13, p14, more, ns', a', b', c', rfl, rfl, hm, i⟩
    obtain ⟨hd, rfl⟩ := rngs_at e
    obtain ⟨q3, q4, q5, q6, q7, q8, q9, q10, q11, q12, q13, q14, more', ns2, a2, b2, c2, e2, hm2, i2⟩ := turn_ok (P := P) (m := m + 39) (ns := ns') (more := more) (sc := .fz (ns.map .int)) (o2 := some (.int (d.length : Nat))) (o3 := p3) (o4 := p4) (o5 := p5) (o6 := p6) (o7 := p7) (o8 := p8) (o9 := p9) (o10 := p10) (o11 := p11) (o12 := p12) (o13 := p13) (o14 := p14) i (by omega) hm
    exact ⟨_, _, _, rfl, e2, some (.int (d.length : Nat)), q3, q4, q5, q6, q7, q8, q9, q10, q11, q12, q13, q14, more', ns2, a2, b2, c2, rfl, rfl, hm2, by rw [List.length_append]; exact i2.up (by simp only [List.length_cons, List.length_nil]; omega)⟩
  obtain ⟨ρ', h', el, p2, p3, p4, p5, p6, p7, p8, p9, p10, p11, p12, p13, p14, more, ns', a', b', c', rfl, rfl, hm, i⟩ := lp
  refine ⟨Fl P ns' a' b' c' more, ?_⟩
  have c := C_law P (m + 59) (.fz (ns.map .int)) [.tb P lamQ]
  refine c.trans ?_
  have e1 : evS (F P (m + 59)) (G P) (.asg 1 (.call 3 (.cons (.var 0) .nil))) [some (.fz (ns.map .int)), none, none, none, none, none, none, none, none, none, none, none, none, none, none] [.tb P lamQ] = .nxt (la (.fz (ns.map .int)) none none none none none none none none none none none none none) (Fl P ns 0 11 0 []) := by
    have fo : C P (m + 59) 3 [.fz (ns.map .int)] [.tb P lamQ] = .ok (.ref 2) (Fl P ns 0 11 0 []) := fo
    simp -implicitDefEqProofs [fo]
  have e2 : evS (F P (m + 59)) (G P) lf (la (.fz (ns.map .int)) none none none none none none none none none none none none none) (Fl P ns 0 11 0 []) = .nxt (la (.fz (ns.map .int)) p2 p3 p4 p5 p6 p7 p8 p9 p10 p11 p12 p13 p14) (Fl P ns' a' b' c' more) := by
    rw [s_for, er, thn_ok]
    exact el
  show finR false _ (evSs _ _ (.cons (.asg 1 _) (.cons lf (.cons (.ret (.con (.bl true))) .nil))) _ _) = _
  rw [s_cons, e1, sthn_nxt, s_cons, e2, sthn_nxt, s_cons, s_ret, v_con, thn_ok, sthn_ret, finR_ret]
end K51
end

section
set_option maxRecDepth 100000
set_option maxHeartbeats 0
namespace K51
open PySem PySem.Spec PyProof.Rows L2 PV
def d_code_register : He.DefD := ⟨("code_register", none), "code_register", "code_register", defArgs (top 1), defBody (top 1), defScope (top 1), [], []⟩
def d_with_register : He.DefD := ⟨("with_register", none), "with_register", "with_register", defArgs (top 2), defBody (top 2), defScope (top 2), [], []⟩
def d_moved_at_once : He.DefD := ⟨("moved_at_once", none), "moved_at_once", "moved_at_once", defArgs (top 3), defBody (top 3), defScope (top 3), [], []⟩
def d__law_flow : He.DefD := ⟨("_law_flow", none), "_law_flow", "_law_flow", defArgs (top 5), defBody (top 5), defScope (top 5), [], []⟩
def d__law_draw : He.DefD := ⟨("_law_draw", none), "_law_draw", "_law_draw", defArgs (top 6), defBody (top 6), defScope (top 6), [], []⟩
def d__law_same : He.DefD := ⟨("_law_same", none), "_law_same", "_law_same", defArgs (top 7), defBody (top 7), defScope (top 7), [], []⟩
def d__law_word : He.DefD := ⟨("_law_word", none), "_law_word", "_law_word", defArgs (top 8), defBody (top 8), defScope (top 8), [], []⟩
def d__law_wrapped : He.DefD := ⟨("_law_wrapped", none), "_law_wrapped", "_law_wrapped", defArgs (top 9), defBody (top 9), defScope (top 9), [], []⟩
def d__law_pending : He.DefD := ⟨("_law_pending", none), "_law_pending", "_law_pending", defArgs (top 10), defBody (top 10), defScope (top 10), [], []⟩
def d_law : He.DefD := ⟨("law", none), "law", "law", defArgs (top 11), defBody (top 11), defScope (top 11), [], []⟩
def fn : List He.DefD := [d_code_register, d_with_register, d_moved_at_once, d__law_flow, d__law_draw, d__law_same, d__law_word, d__law_wrapped, d__law_pending, d_law]
def fa : List He.Fa := [.glo "code_register", .glo "with_register", .glo "moved_at_once", .glo "_law_flow", .glo "_law_draw", .glo "_law_same", .glo "_law_word", .glo "_law_wrapped", .glo "_law_pending", .glo "law", .free "abs", .free "bool", .free "int", .free "isinstance", .free "len", .free "list", .free "max", .free "min", .free "range", .free "repr", .free "sorted", .free "str", .free "tuple"]
abbrev lamD : He.Defn := ("_law_pending", none)
abbrev R0 : PySem.W.OpenRow := PySem.W.OpenLaw.row PySem.Challenge.rw_kindscarried_k51_moves_at_once
def ex (_ : PySem.W.Frag) : Bool := true
abbrev hkD : PySem.W.Hook := He.hookX 4 fa fn [] [lamD] ex
def obD (s : PySem.W.SharedT) : He.AlX := He.obsX 4 fa fn [] [lamD] ex (HandSHeadRun.getT s)
theorem obD_eq (s : PySem.W.SharedT) : obD s = hkD.obs s.abs := He.obsX_eq (HandSHeadRun.getT_eq s)
def loose : List PySem.Str := [("code_register" : PySem.Str), ("with_register" : PySem.Str), ("moved_at_once" : PySem.Str), ("_law_flow" : PySem.Str), ("_law_draw" : PySem.Str), ("_law_same" : PySem.Str), ("_law_word" : PySem.Str), ("_law_wrapped" : PySem.Str), ("_law_pending" : PySem.Str)]
theorem run (w : World) : HandSHeadRun.RunEq R0 (PySem.W.view R0.prog [11]) hkD obD 3000 loose w := by
  intro os
  kernel_rfl
end K51
end

section
set_option maxRecDepth 100000
set_option maxHeartbeats 0
namespace K51
open PySem PySem.Spec PyProof.Rows L2 PV
section
variable {h base : Heap} {K : PySem.W.Frag} {mg : Str → Option Value} {w : World}
abbrev tP (K : PySem.W.Frag) : Nat := (He.cT K lamD).2
abbrev LG (K : PySem.W.Frag) : List D := G (tP K)
theorem def_code_register (X : K.In h) (G0 : h.Ns mainGlobals mg) (c : He.SaysD fa fn K) (TB : LamX.TabB base mg (He.cT K lamD).1 (tP K)) : DefOk K mg base (LG K) L T 0 f_code_register (defArgs (top 1)) (defBody (top 1)) (defScope (top 1)) := by
  obtain ⟨fd, fu⟩ := c.def_ 0 (d := d_code_register) rfl
  refine ⟨sc_code_register, ok_code_register, (fun hq => absurd hq List.not_mem_nil), _, fd, fu, He.glo_ok X G0 (c.fact 0 (f := .glo "code_register") rfl), FunD.bindsN fu fun _ _ _ _ _ _ us hl => match us, hl with | [_], _ => rfl, fun hl => absurd rfl hl, fun q hq => ?_⟩
  exact absurd hq List.not_mem_nil
theorem def_with_register (X : K.In h) (G0 : h.Ns mainGlobals mg) (c : He.SaysD fa fn K) (TB : LamX.TabB base mg (He.cT K lamD).1 (tP K)) : DefOk K mg base (LG K) L T 1 f_with_register (defArgs (top 2)) (defBody (top 2)) (defScope (top 2)) := by
  obtain ⟨fd, fu⟩ := c.def_ 1 (d := d_with_register) rfl
  refine ⟨sc_with_register, ok_with_register, (fun hq => absurd hq List.not_mem_nil), _, fd, fu, He.glo_ok X G0 (c.fact 1 (f := .glo "with_register") rfl), FunD.bindsN fu fun _ _ _ _ _ _ us hl => match us, hl with | [_, _], _ => rfl, fun hl => absurd rfl hl, fun q hq => ?_⟩
  exact absurd hq List.not_mem_nil
theorem def_moved_at_once (X : K.In h) (G0 : h.Ns mainGlobals mg) (c : He.SaysD fa fn K) (TB : LamX.TabB base mg (He.cT K lamD).1 (tP K)) : DefOk K mg base (LG K) L T 2 f_moved_at_once (defArgs (top 3)) (defBody (top 3)) (defScope (top 3)) := by
  obtain ⟨fd, fu⟩ := c.def_ 2 (d := d_moved_at_once) rfl
  refine ⟨sc_moved_at_once, ok_moved_at_once, (fun hq => absurd hq List.not_mem_nil), _, fd, fu, He.glo_ok X G0 (c.fact 2 (f := .glo "moved_at_once") rfl), FunD.bindsN fu fun _ _ _ _ _ _ us hl => match us, hl with | [_, _], _ => rfl, fun hl => absurd rfl hl, fun q hq => ?_⟩
  have hq : q ∈ ([(0, ["spare", "pending"], [1, 0])] : List (Nat × List Str × List Nat)) := hq
  simp only [List.mem_cons, List.not_mem_nil, or_false] at hq
  rcases hq with rfl
  · exact kw_mk fu rfl fun _ _ _ _ _ _ us ws h1 h2 => match us, ws, h1, h2 with | [], [_, _], _, _ => rfl
theorem def__law_flow (X : K.In h) (G0 : h.Ns mainGlobals mg) (c : He.SaysD fa fn K) (TB : LamX.TabB base mg (He.cT K lamD).1 (tP K)) : DefOk K mg base (LG K) L T 3 f__law_flow (defArgs (top 5)) (defBody (top 5)) (defScope (top 5)) := by
  obtain ⟨fd, fu⟩ := c.def_ 3 (d := d__law_flow) rfl
  refine ⟨sc__law_flow, ok__law_flow, (fun hq => absurd hq List.not_mem_nil), _, fd, fu, He.glo_ok X G0 (c.fact 3 (f := .glo "_law_flow") rfl), FunD.bindsN fu fun _ _ _ _ _ _ us hl => match us, hl with | [_], _ => rfl, fun hl => absurd rfl hl, fun q hq => ?_⟩
  exact absurd hq List.not_mem_nil
theorem def__law_draw (X : K.In h) (G0 : h.Ns mainGlobals mg) (c : He.SaysD fa fn K) (TB : LamX.TabB base mg (He.cT K lamD).1 (tP K)) : DefOk K mg base (LG K) L T 4 f__law_draw (defArgs (top 6)) (defBody (top 6)) (defScope (top 6)) := by
  obtain ⟨fd, fu⟩ := c.def_ 4 (d := d__law_draw) rfl
  refine ⟨sc__law_draw, ok__law_draw, (fun hq => absurd hq List.not_mem_nil), _, fd, fu, He.glo_ok X G0 (c.fact 4 (f := .glo "_law_draw") rfl), FunD.bindsN fu fun _ _ _ _ _ _ us hl => match us, hl with | [_, _], _ => rfl, fun hl => absurd rfl hl, fun q hq => ?_⟩
  exact absurd hq List.not_mem_nil
theorem def__law_same (X : K.In h) (G0 : h.Ns mainGlobals mg) (c : He.SaysD fa fn K) (TB : LamX.TabB base mg (He.cT K lamD).1 (tP K)) : DefOk K mg base (LG K) L T 5 f__law_same (defArgs (top 7)) (defBody (top 7)) (defScope (top 7)) := by
  obtain ⟨fd, fu⟩ := c.def_ 5 (d := d__law_same) rfl
  refine ⟨sc__law_same, ok__law_same, (fun hq => absurd hq List.not_mem_nil), _, fd, fu, He.glo_ok X G0 (c.fact 5 (f := .glo "_law_same") rfl), FunD.bindsN fu fun _ _ _ _ _ _ us hl => match us, hl with | [_, _], _ => rfl, fun hl => absurd rfl hl, fun q hq => ?_⟩
  exact absurd hq List.not_mem_nil
theorem def__law_word (X : K.In h) (G0 : h.Ns mainGlobals mg) (c : He.SaysD fa fn K) (TB : LamX.TabB base mg (He.cT K lamD).1 (tP K)) : DefOk K mg base (LG K) L T 6 f__law_word (defArgs (top 8)) (defBody (top 8)) (defScope (top 8)) := by
  obtain ⟨fd, fu⟩ := c.def_ 6 (d := d__law_word) rfl
  refine ⟨sc__law_word, ok__law_word, (fun hq => absurd hq List.not_mem_nil), _, fd, fu, He.glo_ok X G0 (c.fact 6 (f := .glo "_law_word") rfl), FunD.bindsN fu fun _ _ _ _ _ _ us hl => match us, hl with | [_, _], _ => rfl, fun hl => absurd rfl hl, fun q hq => ?_⟩
  exact absurd hq List.not_mem_nil
theorem def__law_wrapped (X : K.In h) (G0 : h.Ns mainGlobals mg) (c : He.SaysD fa fn K) (TB : LamX.TabB base mg (He.cT K lamD).1 (tP K)) : DefOk K mg base (LG K) L T 7 f__law_wrapped (defArgs (top 9)) (defBody (top 9)) (defScope (top 9)) := by
  obtain ⟨fd, fu⟩ := c.def_ 7 (d := d__law_wrapped) rfl
  refine ⟨sc__law_wrapped, ok__law_wrapped, (fun hq => absurd hq List.not_mem_nil), _, fd, fu, He.glo_ok X G0 (c.fact 7 (f := .glo "_law_wrapped") rfl), FunD.bindsN fu fun _ _ _ _ _ _ us hl => match us, hl with | [_, _], _ => rfl, fun hl => absurd rfl hl, fun q hq => ?_⟩
  exact absurd hq List.not_mem_nil
theorem def__law_pending (X : K.In h) (G0 : h.Ns mainGlobals mg) (c : He.SaysD fa fn K) (TB : LamX.TabB base mg (He.cT K lamD).1 (tP K)) : DefOk K mg base (LG K) L T 8 f__law_pending (defArgs (top 10)) (defBody (top 10)) (defScope (top 10)) := by
  obtain ⟨fd, fu⟩ := c.def_ 8 (d := d__law_pending) rfl
  refine ⟨sc__law_pending, ok__law_pending, (fun hq => absurd hq List.not_mem_nil), _, fd, fu, He.glo_ok X G0 (c.fact 8 (f := .glo "_law_pending") rfl), FunD.bindsN fu fun _ _ _ _ _ _ us hl => match us, hl with | [_], _ => rfl, fun _ => ⟨tP K, (He.cT K lamD).1, rfl, TB, code_of fu, by decide +kernel⟩, fun q hq => ?_⟩
  exact absurd hq List.not_mem_nil
theorem def_law (X : K.In h) (G0 : h.Ns mainGlobals mg) (c : He.SaysD fa fn K) (TB : LamX.TabB base mg (He.cT K lamD).1 (tP K)) : DefOk K mg base (LG K) L T 9 f_law (defArgs (top 11)) (defBody (top 11)) (defScope (top 11)) := by
  obtain ⟨fd, fu⟩ := c.def_ 9 (d := d_law) rfl
  refine ⟨sc_law, ok_law, (fun hq => absurd hq List.not_mem_nil), _, fd, fu, He.glo_ok X G0 (c.fact 9 (f := .glo "law") rfl), FunD.bindsN fu fun _ _ _ _ _ _ us hl => match us, hl with | [_], _ => rfl, fun hl => absurd rfl hl, fun q hq => ?_⟩
  exact absurd hq List.not_mem_nil
theorem tab (X : K.In h) (G0 : h.Ns mainGlobals mg) (c : He.SaysD fa fn K) (TB : LamX.TabB base mg (He.cT K lamD).1 (tP K)) : ∀ (f : Nat) (fn : Fn), T[f]? = some fn → ∃ params body scope, DefOk K mg base (LG K) L T f fn params body scope
  | 0, _, e => by obtain rfl := Option.some.inj e; exact ⟨_, _, _, def_code_register X G0 c TB⟩
  | 1, _, e => by obtain rfl := Option.some.inj e; exact ⟨_, _, _, def_with_register X G0 c TB⟩
  | 2, _, e => by obtain rfl := Option.some.inj e; exact ⟨_, _, _, def_moved_at_once X G0 c TB⟩
  | 3, _, e => by obtain rfl := Option.some.inj e; exact ⟨_, _, _, def__law_flow X G0 c TB⟩
  | 4, _, e => by obtain rfl := Option.some.inj e; exact ⟨_, _, _, def__law_draw X G0 c TB⟩
  | 5, _, e => by obtain rfl := Option.some.inj e; exact ⟨_, _, _, def__law_same X G0 c TB⟩
  | 6, _, e => by obtain rfl := Option.some.inj e; exact ⟨_, _, _, def__law_word X G0 c TB⟩
  | 7, _, e => by obtain rfl := Option.some.inj e; exact ⟨_, _, _, def__law_wrapped X G0 c TB⟩
  | 8, _, e => by obtain rfl := Option.some.inj e; exact ⟨_, _, _, def__law_pending X G0 c TB⟩
  | 9, _, e => by obtain rfl := Option.some.inj e; exact ⟨_, _, _, def_law X G0 c TB⟩
  | _ + 10, _, e => by cases e
theorem freeB (X : K.In h) (G0 : h.Ns mainGlobals mg) (c : He.SaysD fa fn K) : ∀ x ∈ bs, mg x = none := by
  intro x hx
  simp only [bs, List.mem_cons, List.not_mem_nil, or_false] at hx
  rcases hx with rfl | rfl | rfl | rfl | rfl | rfl | rfl | rfl | rfl | rfl | rfl | rfl | rfl
  · exact He.free_ok X G0 (c.fact 10 (f := .free "abs") rfl)
  · exact He.free_ok X G0 (c.fact 11 (f := .free "bool") rfl)
  · exact He.free_ok X G0 (c.fact 12 (f := .free "int") rfl)
  · exact He.free_ok X G0 (c.fact 13 (f := .free "isinstance") rfl)
  · exact He.free_ok X G0 (c.fact 14 (f := .free "len") rfl)
  · exact He.free_ok X G0 (c.fact 15 (f := .free "list") rfl)
  · exact He.free_ok X G0 (c.fact 16 (f := .free "max") rfl)
  · exact He.free_ok X G0 (c.fact 17 (f := .free "min") rfl)
  · exact He.free_ok X G0 (c.fact 18 (f := .free "range") rfl)
  · exact He.free_ok X G0 (c.fact 19 (f := .free "repr") rfl)
  · exact He.free_ok X G0 (c.fact 20 (f := .free "sorted") rfl)
  · exact He.free_ok X G0 (c.fact 21 (f := .free "str") rfl)
  · exact He.free_ok X G0 (c.fact 22 (f := .free "tuple") rfl)
theorem mod_ok (X : K.In h) (G0 : h.Ns mainGlobals mg) (c : He.SaysD fa fn K) : ModOk (PySem.Challenge.rw_kindscarried_k51_moves_at_once).prog K mg L (LG K) where
  b := freeB X G0 c
  g := fun i x d e _ => absurd e (by simp [L, gn])
  x := fun x hx => absurd hx List.not_mem_nil
  m := ⟨fun x y b hx => absurd hx List.not_mem_nil, fun x y b hx => absurd hx List.not_mem_nil, fun x y b hx => absurd hx List.not_mem_nil, fun x g hx => absurd hx List.not_mem_nil, fun x hx => absurd hx List.not_mem_nil⟩
  t := fun p hp => absurd hp List.not_mem_nil
theorem facts {a : Addr} (X : K.In h) (G0 : h.Ns mainGlobals mg) (ha : mg ("law" : Str) = some (.ref a)) (c : He.SaysD fa fn K) :
    ∃ fd : FuncData, (∀ (s : Shared) (v : Value), BindsTo s fd ⟨[v], []⟩ [("script", v)]) ∧ ∀ base : Heap, K.In base → base.Ns mainGlobals mg → LamX.TabB base mg (He.cT K lamD).1 (tP K) → FnG (PySem.Challenge.rw_kindscarried_k51_moves_at_once).prog w K mg base 60 a fd ["script"] (spF K mg (callN T (LG K) 60) 9 1) := by
  obtain ⟨fd, fu⟩ := c.def_ 9 (d := d_law) rfl
  have e := ha.symm.trans (He.glo_ok X G0 (c.fact 9 (f := .glo "law") rfl))
  cases e
  have b := FunD.bindsA (ps := ["script"]) fu fun _ _ _ _ _ _ us hl => match us, hl with | [_], _ => rfl
  refine ⟨fd, fun s v => b s [v] rfl, fun base _ _ TB => ?_⟩
  obtain ⟨IH, IQ⟩ := tab_both (w := w) (base := base) (tab X G0 c TB) (mod_ok X G0 c) 59
  exact def_step (fn := f_law) (L := L) (mod_ok X G0 c) IH IQ rfl sc_law ok_law fu (fun hl => absurd rfl hl)
end
end K51
open PyProof.Rows PySem PySem.W PySem.Calls
theorem PySem.Challenge.cw_kindscarried_k51_moves_at_once_holds : PySem.Challenge.rw_kindscarried_k51_moves_at_once.Holds := by
  w_on; o_law
  refine HandSHeadRun.head_any (r := OpenLaw.row PySem.Challenge.rw_kindscarried_k51_moves_at_once) (q := view (OpenLaw.row PySem.Challenge.rw_kindscarried_k51_moves_at_once).prog [11]) (H := K51.hkD) (ob := K51.obD) (M := 3000) (loose := K51.loose) (d := HandSHeadRun.topDef (OpenLaw.row PySem.Challenge.rw_kindscarried_k51_moves_at_once).prog 11) (kwd := []) K51.obD_eq
    (by kernel_rfl) (fun s => by kernel_rfl) K51.run (by kernel_rfl) (by kernel_rfl) (by kernel_rfl) (by rfl) (by first | assumption | decide +kernel) (by decide +kernel) ⟨rfl, rfl, rfl, rfl, rfl, by decide +kernel⟩ ?hw ?hc
  case hw => w_witness2
  case hc =>
    refine PV.walk_gT (l := PySem.Challenge.rw_kindscarried_k51_moves_at_once) (n := 63) (k := 60) (x := "script") rfl (by decide) (by kernel_rfl) ⟨rfl, by decide, by decide⟩ ?F
    intro w mg fa h Y G hmg0
    obtain ⟨K, KX, c⟩ := Y
    have hmg1 : mg ("law" : PySem.Str) = some (.ref fa) := by
      have e : (HandSHeadRun.topDef (OpenLaw.row PySem.Challenge.rw_kindscarried_k51_moves_at_once).prog 11).name = ("law" : PySem.Str) := by kernel_rfl
      rw [← e]
      exact hmg0
    obtain ⟨fd, hb, hF⟩ := K51.facts (w := w) KX G hmg1 c.t.d
    exact ⟨K, fd, _, (He.cT K K51.lamD).1, K51.tP K, KX, c.empty _ List.mem_cons_self, c.out _ List.mem_cons_self, PySem.W.codeHd_of_K KX (c.hd _ List.mem_cons_self), hb, fun H a ns hl hO hS => PV.law_spT (fn := K51.f_law) rfl rfl (fun ns hn => K51.law_ev (P := K51.tP K) (m := 0) ns hn) (by decide) H a ns hl hO hS, hF⟩
end
