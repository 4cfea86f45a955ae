import PyProof.Rows.All
import HandS.ForMost
import PyProof.ReprRoads
import HandS.SetFor
import HandS.Strs
import HandS.TupMul
import HandS.IsInst
import HandS.Zip
import HandS.Conv
import HandS.TupAny
import HandS.Deep
import HandS.ExcOwn
import HandS.TryOnly
import HandS.WordsExc
import HandS.ExcValue
import HandS.ExcField
import HandS.ExcIs
import HandS.ExcCtx
import HandS.HeadHook1
import HandS.ExcInit
import KE.KSuper
import KE.KExcSuper
import HandS.HeadHook4
import HandS.HeadNt
import HandS.Style
import HandS.Wide
import HandS.SortInts
import HandS.HotCalls
import HandS.Flow
import KE.KExcIs
import HandS.MapObj
import KE.KDictZip
import KE.GoesMore
import PyProof.EnumMake
import PyProof.TupleOfGen
import KE.KIndexOf
import HandS.DictComp
import HandS.Small
import HandS.Hot
import PyProof.ExcBaseAll.ValueError
import HandS.Defaults
import HandS.Ends
import HandS.HeadEnd
import PySem.Challenge.RW_kindscarried_k00_error_classes
import KE.KStateDown
import HandS.Words
import HandS.Head0
import HandS.Head1
import HandS.Head2
import HandS.HeadHook2
import HandS.HeadHook3
set_option Elab.async false
set_option linter.all false
section
/-! PvA: a small language of Python's pure part (E, S), read off the text, and its evaluator over plain data D and a list of mutable objects. -/
namespace PV
open PySem L2

/-- data: none, truths, ints, texts, tuples, lists that are never changed, mutable objects by number -/
inductive D where
  | non | bl (b : Bool) | int (i : Int) | str (x : Str)
  | tup (xs : List D) | lst (xs : List D) | ref (i : Nat)
  /-- a list that is read and never written: the script -/
  | fz (xs : List D)
  /-- a written tuple whose object is known -/
  | ftup (xs : List D)
  /-- a caught exception: its class, and its one field -/
  | exc (c : Str) | exf (c f : Str) (d : D)
  deriving Inhabited
/-- what a mutable object holds -/
inductive O where
  | lst (xs : List D) | dct (kvs : List (Key × D))
  deriving Inhabited
abbrev Hh := List O
structure Xc where
  cls : Str
  fld : Option (Str × D)
/-- .. as the clause's name has it -/
def Xc.d (x : Xc) : D := match x.fld with
  | none => .exc x.cls
  | some p => .exf x.cls p.1 p.2
inductive R (α : Type) where
  | bad | ok (a : α) (h : Hh) | err (x : Xc) (h : Hh)
def R.bind {α β : Type} (r : R α) (f : α → Hh → R β) : R β := match r with
  | .bad => .bad
  | .ok a h => f a h
  | .err x h => .err x h
@[simp] theorem R.bind_ok {α β : Type} (a : α) (h : Hh) (f : α → Hh → R β) : (R.ok a h).bind f = f a h := rfl
@[simp] theorem R.bind_bad {α β : Type} (f : α → Hh → R β) : (R.bad : R α).bind f = .bad := rfl
@[simp] theorem R.bind_err {α β : Type} (x : Xc) (h : Hh) (f : α → Hh → R β) : (R.err x h : R α).bind f = .err x h := rfl
theorem R.bind_assoc {α β γ : Type} (r : R α) (f : α → Hh → R β) (g : β → Hh → R γ) : (r.bind f).bind g = r.bind fun a h => (f a h).bind g := by cases r <;> rfl
def R.opt {α : Type} (o : Option α) (h : Hh) : R α := match o with
  | some a => .ok a h
  | none => .bad
@[simp] theorem R.opt_some {α : Type} (a : α) (h : Hh) : R.opt (some a) h = .ok a h := rfl
@[simp] theorem R.opt_none {α : Type} (h : Hh) : R.opt (none : Option α) h = .bad := rfl

/-! ### data -/
mutual
def D.eqv : D → D → Bool
  | .non, .non => true
  | .bl a, .bl b => a == b
  | .bl a, .int j => (if a then 1 else 0) == j
  | .int i, .bl b => i == (if b then 1 else 0)
  | .int i, .int j => i == j
  | .str x, .str y => decide (x = y)
  | .lst xs, .lst ys => D.eqvs xs ys
  | .tup xs, .tup ys => D.eqvs xs ys
  | _, _ => false
def D.eqvs : List D → List D → Bool
  | [], [] => true
  | x :: xs, y :: ys => D.eqv x y && D.eqvs xs ys
  | _, _ => false
end
mutual
/-- data that == and in are told of: no mutable object in it, plain signs -/
def D.lay : D → Bool
  | .non => true
  | .bl _ => true
  | .int _ => true
  | .str x => PyData.strOk x
  | .tup xs => D.lays xs
  | .lst xs => D.lays xs
  | .ref _ => false
  | .fz _ => false
  | .ftup _ => false
  | .exc _ => false
  | .exf _ _ _ => false
def D.lays : List D → Bool
  | [] => true
  | x :: xs => D.lay x && D.lays xs
end
mutual
def D.dep : D → Nat
  | .tup xs => D.deps xs + 1
  | .lst xs => D.deps xs + 1
  | _ => 0
def D.deps : List D → Nat
  | [] => 0
  | x :: xs => max (D.dep x) (D.deps xs)
end
def D.shp (d : D) : Bool := d.lay && decide (d.dep ≤ 64)
mutual
/-- the very same -/
def D.same : D → D → Bool
  | .non, .non => true
  | .bl a, .bl b => a == b
  | .int i, .int j => i == j
  | .str x, .str y => decide (x = y)
  | .lst xs, .lst ys => D.sames xs ys
  | .tup xs, .tup ys => D.sames xs ys
  | .ref i, .ref j => i == j
  | .fz xs, .fz ys => D.sames xs ys
  | _, _ => false
def D.sames : List D → List D → Bool
  | [], [] => true
  | x :: xs, y :: ys => D.same x y && D.sames xs ys
  | _, _ => false
end
mutual
/-- no object from n on in it -/
def D.rlt (n : Nat) : D → Bool
  | .ref i => decide (i < n)
  | .tup xs => D.rlts n xs
  | .lst xs => D.rlts n xs
  | .fz xs => D.rlts n xs
  | .ftup xs => D.rlts n xs
  | .exf _ _ d => D.rlt n d
  | _ => true
def D.rlts (n : Nat) : List D → Bool
  | [] => true
  | x :: xs => D.rlt n x && D.rlts n xs
end
def O.rlt (n : Nat) : O → Bool
  | .lst xs => D.rlts n xs
  | .dct kvs => kvs.all fun p => p.2.rlt n
def Hh.rlt (h : Hh) (n : Nat) : Bool := h.all (O.rlt n)

mutual
/-- data as the library's data -/
def D.py : D → PyData
  | .non => .none
  | .bl b => .bool b
  | .int i => .int i
  | .str x => .str x
  | .tup xs => .tuple (D.pys xs)
  | .lst xs => .list (D.pys xs)
  | .ref _ => .none
  | .fz _ => .none
  | .ftup _ => .none
  | .exc _ => .none
  | .exf _ _ _ => .none
def D.pys : List D → List PyData
  | [] => []
  | x :: xs => D.py x :: D.pys xs
end
/-- a mutable list, seen as it stands -/
def D.res (h : Hh) : D → D
  | .ref i => match h[i]? with
    | some (.lst xs) => .lst xs
    | _ => .ref i
  | .fz xs => .lst xs
  | d => d
/-- a list that + and * take -/
def D.own (h : Hh) : D → Option (List D)
  | .lst xs => some xs
  | .ref i => match h[i]? with
    | some (.lst xs) => some xs
    | _ => none
  | _ => none
def D.seq (h : Hh) : D → Option (List D)
  | .tup xs => some xs
  | .lst xs => some xs
  | .fz xs => some xs
  | .ftup xs => some xs
  | .ref i => match h[i]? with
    | some (.lst xs) => some xs
    | _ => none
  | _ => none
def D.key : D → Option Key
  | .int i => some (.inl i)
  | .str x => some (.inr x)
  | _ => none
def D.tru (h : Hh) : D → Option Bool
  | .non => some false
  | .bl b => some b
  | .int i => some (i != 0)
  | .str x => if x.length ≤ sizeLine then some ((x.length : Int) != 0) else none
  | .tup xs => some (!xs.isEmpty)
  | .lst xs => some (!xs.isEmpty)
  | .fz xs => some (!xs.isEmpty)
  | .ftup _ => none
  | .exc _ => none
  | .exf _ _ _ => none
  | .ref i => match h[i]? with
    | some (.lst xs) => some (!xs.isEmpty)
    | some (.dct kvs) => some (!kvs.isEmpty)
    | none => none
def D.isNon : D → Bool
  | .non => true
  | _ => false
def D.eqBl (b : Bool) : D → Bool
  | .bl a => a == b
  | _ => false
def D.isInt : D → Option Int
  | .int i => some i
  | _ => none
def D.isBl : D → Option Bool
  | .bl b => some b
  | _ => none

/-! sorted -/
def insI (x : Int) : (List Int) → (List Int)
  | [] => [x]
  | y :: r => if x ≤ y then x :: y :: r else y :: insI x r
def srtI (l : List Int) : List Int := l.foldr insI []
def insS (x : Str) : List Str → List Str
  | [] => [x]
  | y :: r => if PySem.Spec.ltCps y.cps.toList x.cps.toList then y :: insS x r else x :: y :: r
def srtS (l : List Str) : List Str := l.foldr insS []
/-- .. of a set -/
def insD (x : Int) : List Int → List Int
  | [] => [x]
  | y :: r => if x < y then x :: y :: r else if x = y then y :: r else y :: insD x r
def srtD (l : List Int) : List Int := l.foldr insD []

inductive BOp where | add | sub | mul | fdiv | mod | pow
inductive COp where | eq | ne | lt | le | gt | ge | inn | nin | is | isn | deq
inductive Ty where | int | str | tup | lst | bl | dct | non
inductive Bf where | len | int | abs | tuple | list | max2 | min2 | sum | all | any | sorted | repr
inductive Mt where | append | pop | popAt | index | count

def mulOk (i j : Int) : Bool := decide (i.natAbs.log2 + j.natAbs.log2 < 1000000) || decide (-(2 ^ 64) < i ∧ i < 2 ^ 64) || decide (-(2 ^ 64) < j ∧ j < 2 ^ 64)
def powOk (i j : Int) : Bool := decide (0 ≤ j) && decide (j ≤ 1000000) && decide (i.natAbs < 2 ^ 64)
def sizeOk (n : Nat) : Bool := decide (n ≤ 16777216)
def cutD (xs : List D) (lo hi : Option Int) : List D := (xs.drop (HT.sIx xs.length 0 lo)).take (HT.sIx xs.length xs.length hi - HT.sIx xs.length 0 lo)

def opBin (o : BOp) (h : Hh) (x y : D) : Option D := match o with
  | .add => match x, y with
    | .int i, .int j => some (.int (i + j))
    | .str a, .str b => if sizeOk (a.length + b.length) then some (.str (a ++ b)) else none
    | .tup xs, .tup ys => if sizeOk (xs.length + ys.length) then some (.tup (xs ++ ys)) else none
    | x, y => match x.own h, y.own h with
      | some xs, some ys => if sizeOk (xs.length + ys.length) then some (.lst (xs ++ ys)) else none
      | _, _ => none
  | .sub => match x, y with
    | .int i, .int j => some (.int (i - j))
    | _, _ => none
  | .mul => match x, y with
    | .int i, .int j => if mulOk i j then some (.int (i * j)) else none
    | .tup xs, .int j => if xs ≠ [] ∧ 2 ≤ j ∧ j ≤ 1000000 ∧ j.toNat * xs.length ≤ 1000000 then some (.tup (List.replicate j.toNat xs).flatten) else none
    | x, .int j => match x.own h with
      | some xs => if 0 ≤ j ∧ j ≤ 16777216 ∧ sizeOk (xs.length * j.toNat) then some (.lst (List.replicate j.toNat xs).flatten) else none
      | _ => none
    | _, _ => none
  | .fdiv => match x, y with
    | .int i, .int j => if 0 < j ∧ j.natAbs.log2 < 9000 then some (.int (i / j)) else none
    | _, _ => none
  | .mod => match x, y with
    | .int i, .int j => if 0 < j then some (.int (i % j)) else none
    | _, _ => none
  | .pow => match x, y with
    | .int i, .int j => if powOk i j then some (.int (i ^ j.toNat)) else none
    | _, _ => none
/-- x op= y of ints and texts -/
def augOp (o : BOp) (x y : D) : Option D := match o with
  | .add => match x, y with
    | .int i, .int j => some (.int (i + j))
    | .str a, .str b => if sizeOk (a.length + b.length) then some (.str (a ++ b)) else none
    | _, _ => none
  | .sub => match x, y with
    | .int i, .int j => some (.int (i - j))
    | _, _ => none
  | .mul => none
  | .fdiv => match x, y with
    | .int i, .int j => if 0 < j ∧ j < 1073741824 then some (.int (i / j)) else none
    | _, _ => none
  | .mod => match x, y with
    | .int i, .int j => if 0 < j then some (.int (i % j)) else none
    | _, _ => none
  | .pow => none
/-- what == reads: plain data, one of both not deep -/
def D.cok (a b : D) : Bool := (a.shp && b.shp) || (a.lay && (b.lay && decide (min a.dep b.dep ≤ 64)))
def opEq (h : Hh) (x y : D) : Option Bool := match x, y with
  | .str a, .str b => some (decide (a = b))
  | x, y => if D.cok (x.res h) (y.res h) then some ((x.res h).eqv (y.res h)) else none
/-- mutable lists, seen as they stand, in depth -/
def D.all (h : Hh) : Nat → D → D
  | 0, d => d
  | k + 1, d => match d with
    | .ref i => match h[i]? with
      | some (.lst xs) => .lst (xs.map (D.all h k))
      | _ => .ref i
    | .tup xs => .tup (xs.map (D.all h k))
    | .lst xs => .lst (xs.map (D.all h k))
    | d => d
def opDeq (h : Hh) (x y : D) : Option Bool := if D.cok (x.all h 3) (y.all h 3) then some ((x.all h 3).eqv (y.all h 3)) else none
def valD (kvs : List (Key × D)) (k : Key) : Option D := (kvs.find? fun kv => decide (kv.1 = k)).map (·.2)
def putD (kvs : List (Key × D)) (k : Key) (v : D) : List (Key × D) :=
  if (kvs.any fun kv => decide (kv.1 = k)) = true
  then kvs.map (fun kv => if kv.1 = k then (kv.1, v) else kv) else kvs ++ [(k, v)]
def dropD (kvs : List (Key × D)) (k : Key) : List (Key × D) := kvs.filter fun kv => decide (kv.1 ≠ k)
def hasKey (k : Key) (kvs : List (Key × D)) : Bool := (valD kvs k).isSome
def opIn (h : Hh) (x y : D) : Option Bool := match y with
  | .ref i => match h[i]? with
    | some (.lst ys) => if x.shp && (D.lst ys).shp then some (ys.any fun y => y.eqv x) else none
    | some (.dct kvs) => match x.key with
      | some k => some (hasKey k kvs)
      | none => none
    | none => none
  | .lst ys => if x.shp && (D.lst ys).shp then some (ys.any fun y => y.eqv x) else none
  | .tup ys => if x.shp && (D.tup ys).shp then some (ys.any fun y => y.eqv x) else none
  | .ftup ys => if x.shp && (D.tup ys).shp then some (ys.any fun y => y.eqv x) else none
  | _ => none
def opCmp (o : COp) (h : Hh) (x y : D) : Option Bool := match o with
  | .eq => opEq h x y
  | .ne => (opEq h x y).map (!·)
  | .lt => match x, y with
    | .int i, .int j => some (decide (i < j))
    | _, _ => none
  | .le => match x, y with
    | .int i, .int j => some (decide (i ≤ j))
    | _, _ => none
  | .gt => match x, y with
    | .int i, .int j => some (decide (j < i))
    | _, _ => none
  | .ge => match x, y with
    | .int i, .int j => some (decide (j ≤ i))
    | _, _ => none
  | .inn => opIn h x y
  | .nin => (opIn h x y).map (!·)
  | .is => match y with
    | .non => some x.isNon
    | .bl b => some (x.eqBl b)
    | _ => none
  | .isn => match y with
    | .non => some (!x.isNon)
    | .bl b => some (!x.eqBl b)
    | _ => none
  | .deq => opDeq h x y
def opIdx (h : Hh) (x y : D) : Option D := match x, y with
  | .tup xs, .int i => atI xs i
  | .lst xs, .int i => atI xs i
  | .fz xs, .int i => atI xs i
  | .ref r, y => match h[r]?, y with
    | some (.lst xs), .int i => atI xs i
    | some (.dct kvs), y => match y.key with
      | some k => valD kvs k
      | none => none
    | _, _ => none
  | _, _ => none
def opSlc (h : Hh) (x : D) (l u : Option Int) : Option D := match x with
  | .tup xs => some (.tup (cutD xs l u))
  | x => match x.res h with
    | .lst xs => some (.lst (cutD xs l u))
    | _ => none
def opIsi (t : Ty) (h : Hh) (x : D) : Bool := match t, x with
  | .int, .int _ => true
  | .int, .bl _ => true
  | .bl, .bl _ => true
  | .non, .non => true
  | .str, .str _ => true
  | .tup, .tup _ => true
  | .lst, .lst _ => true
  | .lst, .fz _ => true
  | .lst, .ref i => match h[i]? with | some (.lst _) => true | _ => false
  | .dct, .ref i => match h[i]? with | some (.dct _) => true | _ => false
  | _, _ => false
def D.ints : List D → Option (List Int)
  | [] => some []
  | .int i :: r => (D.ints r).map (i :: ·)
  | _ => none
def D.bls : List D → Option (List Bool)
  | [] => some []
  | .bl b :: r => (D.bls r).map (b :: ·)
  | _ => none
def D.strs : List D → Option (List Str)
  | [] => some []
  | .str i :: r => (D.strs r).map (i :: ·)
  | _ => none
def D.lstOf : D → Option (List D)
  | .lst xs => some xs
  | _ => none
def bfLen (h : Hh) : List D → Option D
  | [.tup ys] => some (.int ys.length)
  | [.lst ys] => some (.int ys.length)
  | [.fz ys] => some (.int ys.length)
  | [.ftup ys] => some (.int ys.length)
  | [.str x] => if x.length ≤ sizeLine then some (.int x.length) else none
  | [.ref i] => match h[i]? with
    | some (.lst ys) => some (.int ys.length)
    | some (.dct kvs) => some (.int kvs.length)
    | none => none
  | _ => none
def bfInt : List D → Option D
  | [.int i] => some (.int i)
  | [.bl b] => some (.int (if b then 1 else 0))
  | _ => none
def bfAbs : List D → Option D
  | [.int i] => some (.int (if i < 0 then -i else i))
  | _ => none
def bfTuple (h : Hh) : List D → Option D
  | [.ftup _] => none
  | [x] => (x.seq h).map D.tup
  | _ => none
def bfList (h : Hh) : List D → Option D
  | [x] => (x.seq h).map D.lst
  | _ => none
def bfMax : List D → Option D
  | [.int i, .int j] => some (.int (if j > i then j else i))
  | _ => none
def bfMin : List D → Option D
  | [.int i, .int j] => some (.int (if j < i then j else i))
  | _ => none
def bfSum (h : Hh) : List D → Option D
  | [x] => ((x.res h).lstOf.bind D.ints).map fun ns => .int ns.sum
  | _ => none
def bfAll (h : Hh) : List D → Option D
  | [x] => ((x.res h).lstOf.bind D.bls).map fun bs => .bl (bs.all id)
  | _ => none
def bfAny (h : Hh) : List D → Option D
  | [x] => ((x.res h).lstOf.bind D.bls).map fun bs => .bl (bs.any id)
  | _ => none
def srtItems (any : Bool) (ds : List D) : Option D := match D.ints ds with
  | some ns => if any || decide (ns.length < 64) then some (.lst ((srtI ns).map .int)) else none
  | none => match D.strs ds with
    | some ss => if ss.length < 64 then some (.lst ((srtS ss).map .str)) else none
    | none => none
def keyInts : List (Key × D) → Option (List Int)
  | [] => some []
  | (.inl i, _) :: r => (keyInts r).map (i :: ·)
  | _ => none
def bfSorted (h : Hh) : List D → Option D
  | [.ftup _] => none
  | [.tup ys] => srtItems false ys
  | [.lst ys] => srtItems true ys
  | [.fz ys] => srtItems true ys
  | [.ref i] => match h[i]? with
    | some (.lst ys) => srtItems true ys
    | some (.dct kvs) => (keyInts kvs).bind fun ns => if ns.length < 64 then some (.lst ((srtI ns).map .int)) else none
    | none => none
  | _ => none
/-- sorted(set(x)) -/
def ssetOp (h : Hh) (x : D) : Option D := ((x.res h).lstOf.bind D.ints).bind fun ns => if ns.length < 64 then some (.lst ((srtD ns).map .int)) else none
def reprD (d : D) : Option D := if d.shp && d.py.showable && decide (d.py.shown.length ≤ 16777216) then some (.str d.py.shown) else none
def bfRepr (h : Hh) : List D → Option D
  | [x] => reprD (x.res h)
  | _ => none
def opBf (f : Bf) (h : Hh) (xs : List D) : Option D := match f with
  | .len => bfLen h xs
  | .int => bfInt xs
  | .abs => bfAbs xs
  | .tuple => bfTuple h xs
  | .list => bfList h xs
  | .max2 => bfMax xs
  | .min2 => bfMin xs
  | .sum => bfSum h xs
  | .all => bfAll h xs
  | .any => bfAny h xs
  | .sorted => bfSorted h xs
  | .repr => bfRepr h xs

/-! ### the syntax -/
mutual
inductive E where
  | var (i : Nat) | con (d : D) | glo (i : Nat) | miss
  | tup (es : Es) | ftup (es : Es) | lst (es : Es) | new (e : E) | dic0
  | bin (o : BOp) (a b : E) | neg (a : E)
  | cmp (o : COp) (a b : E) | chain (o p : COp) (a b c : E)
  | and (a : E) (r : Es) | or (a : E) (r : Es) | not (a : E) | ite (c a b : E)
  | idx (a i : E) | slc (a lo hi : E)
  | call (f : Nat) (es : Es) | callK (f : Nat) (es kes : Es) (ks : List Nat)
  | bf (f : Bf) (es : Es) | isi (a : E) (t : Ty)
  | mth (m : Mt) (o : E) (es : Es)
  | lc (t : Tg) (it : I) (c e : E)
  | tenum (a : E)
  | sset (a : E)
  | dcl (t : Tg) (it : I) (c k v : E)
  | trng (a : E)
  | isi2 (a : E)
  | isx (a : E) (c : Str) (yes no : List Str)
  | fld (a : E) (f : Str) (ks : List Str)
  /-- C(e).f, C keeps e as f (by position, by name) -/
  | mkf (c f : Str) (k : Bool) (e : E)
  /-- isinstance(e, ValueError) of a caught exception -/
  | isv (a : E) (yes : List Str)
  /-- never reached -/
  | bad
inductive Es where
  | nil | cons (e : E) (es : Es)
inductive I where
  | ev (e : E) | rng (n : E) | rng2 (a b : E) | zip (a b : E) | enum (a : E)
inductive Tg where
  | v (i : Nat) | tu (is : List Nat)
end
def E.isMiss : E → Bool
  | .miss => true
  | _ => false
mutual
inductive S where
  | asg (i : Nat) (e : E) | asgLc (i : Nat) (e : E) | par (i j : Nat) (a b : E) | unp (is : List Nat) (e : E)
  | sto (o i e : E) | aug (i : Nat) (o : BOp) (e : E) | augL (i : Nat) (e : E)
  | exp (e : E) | ret (e : E) | retN
  | ite (c : E) (a b : Ss) | whl (c : E) (b : Ss) | for_ (t : Tg) (it : I) (b : Ss)
  | pass | brk | cnt | gc (ks : List Nat) (b : S)
  | asgC (i f : Nat) (es : Es) | expC (f : Nat) (es : Es) | retC (f : Nat) (es : Es)
  | raise_ (c : Str) | try_ (b : Ss) (c : Str) (yes no : List Str) (s : Ss)
  | tryAs (b : Ss) (c : Str) (yes no : List Str) (i : Nat) (s : Ss)
  /-- .. whose suite begins with a, b = x, y -/
  | tryAP (b : Ss) (c : Str) (yes no : List Str) (i i1 j1 : Nat) (a1 b1 : E) (s : Ss)
  /-- raise C(e), C without an own __init__; raise C(e), C keeps e as f; never reached -/
  | raiseE (c : Str) (e : E) | raiseF (c f : Str) (e : E) | bad
inductive Ss where
  | nil | cons (s : S) (ss : Ss)
end
abbrev Env := List (Option D)
abbrev Fns := Nat → List D → Hh → R D

/-! ### the evaluator -/
/-- the items, and the object that they are read off -/
structure Src where
  items : List D
  off : Option Nat
def Src.good (s : Src) (h : Hh) : Bool := match s.off with
  | none => true
  | some i => match h[i]? with
    | some (.lst xs) => D.sames xs s.items
    | _ => false
def D.src (h : Hh) : D → Option Src
  | .tup xs => some ⟨xs, none⟩
  | .lst xs => some ⟨xs, none⟩
  | .fz xs => some ⟨xs, none⟩
  | .ftup xs => some ⟨xs, none⟩
  | .ref i => match h[i]? with
    | some (.lst xs) => some ⟨xs, some i⟩
    | _ => none
  | _ => none
def rngOk (a b : Int) : Bool := decide (-(2 ^ 62) ≤ a) && decide (a < 2 ^ 62) && decide (-(2 ^ 62) ≤ b) && decide (b < 2 ^ 62)
def rngD (a b : Int) : List D := (List.range (b - a).toNat).map fun k => .int (a + (k : Nat))
def zipD (xs ys : List D) : List D := List.zipWith (fun x y => .tup [x, y]) xs ys
def enumD (n : Nat) : List D → List D
  | [] => []
  | x :: xs => .tup [.int n, x] :: enumD (n + 1) xs
def tenumOp : D → Option D
  | .tup xs => if sizeOk xs.length then some (.tup (enumD 0 xs)) else none
  | _ => none
def zipSrc : D → D → Option Src
  | .tup xs, .tup ys => some ⟨zipD xs ys, none⟩
  | .lst xs, .lst ys => some ⟨zipD xs ys, none⟩
  | _, _ => none
def enumSrc : D → Option Src
  | .lst xs => some ⟨enumD 0 xs, none⟩
  | .fz xs => some ⟨enumD 0 xs, none⟩
  | .tup xs => some ⟨enumD 0 xs, none⟩
  | _ => none
def trngOp : D → Option D
  | .int n => if 0 ≤ n ∧ n ≤ 16777216 then some (.tup (rngD 0 n)) else none
  | _ => none
def setAll : List Nat → List D → Env → Option Env
  | [], [], ρ => some ρ
  | i :: is, x :: xs, ρ => setAll is xs (ρ.set i (some x))
  | _, _, _ => none
def Tg.put (t : Tg) (x : D) (ρ : Env) : Option Env := match t with
  | .v i => some (ρ.set i (some x))
  | .tu is => match x with
    | .tup xs => setAll is xs ρ
    | _ => none
def Tg.slots : Tg → List Nat
  | .v i => [i]
  | .tu is => is
/-- the loop of a comprehension -/
def lcLoop (good : Hh → Bool) (turn : D → Hh → R (Option D)) : List D → List D → Hh → R D
  | [], acc, h => if good h then .ok (.lst acc) h else .bad
  | x :: xs, acc, h => if good h then (match turn x h with
    | .ok (some y) h' => lcLoop good turn xs (acc ++ [y]) h'
    | .ok none h' => lcLoop good turn xs acc h'
    | _ => .bad) else .bad
/-- .. of a dict comprehension -/
def dcLoop (good : Hh → Bool) (turn : D → Hh → R (Option (Key × D))) : List D → List (Key × D) → Hh → R (List (Key × D))
  | [], acc, h => if good h then .ok acc h else .bad
  | x :: xs, acc, h => if good h then (match turn x h with
    | .ok (some p) h' => dcLoop good turn xs (putD acc p.1 p.2) h'
    | .ok none h' => dcLoop good turn xs acc h'
    | _ => .bad) else .bad
def newDct (kvs : List (Key × D)) (h : Hh) : R D := .ok (.ref h.length) (h ++ [.dct kvs])
def newObj (d : D) (h : Hh) : R D := match d with
  | .lst xs => .ok (.ref h.length) (h ++ [.lst xs])
  | _ => .bad
def mtAppend (ys : List D) : List D → Option (D × List D)
  | [x] => if sizeOk (ys.length + 1) then some (.non, ys ++ [x]) else none
  | _ => none
def mtPop (ys : List D) : List D → Option (D × List D)
  | [] => (ys[ys.length - 1]?).map fun y => (y, ys.dropLast)
  | _ => none
def mtPopAt (ys : List D) : List D → Option (D × List D)
  | [.int k] => (ixN ys.length k).bind fun j => (ys[j]?).map fun y => (y, ys.eraseIdx j)
  | _ => none
def mtL (m : Mt) (ys xs : List D) : Option (D × List D) := match m with
  | .append => mtAppend ys xs
  | .pop => mtPop ys xs
  | .popAt => mtPopAt ys xs
  | .index => none
  | .count => none
def mthRef (m : Mt) (i : Nat) (xs : List D) (h : Hh) : R D := match h[i]? with
  | some (.lst ys) => match mtL m ys xs with
    | some p => .ok p.1 (h.set i (.lst p.2))
    | none => .bad
  | _ => .bad
def mthOp (m : Mt) (o : D) (xs : List D) (h : Hh) : R D := match o with
  | .ref i => mthRef m i xs h
  | _ => .bad
/-- positional and keyword arguments in the parameters' order -/
def pmD {α : Type} (d : α) (ks : List Nat) (xs ys : List α) : List α := ks.map fun k => (xs ++ ys).getD k d
def D.isL (h : Hh) : D → Bool
  | .ref i => match h[i]? with
    | some (.lst _) => true
    | _ => false
  | .lst _ => true
  | .fz _ => true
  | _ => false
/-- what an expression does: as a value, as a test -/
structure P where
  v : Env → Hh → R D
  t : Env → Hh → R Bool
def P.plain (v : Env → Hh → R D) : P := ⟨v, fun ρ h => (v ρ h).bind fun x h1 => R.opt (x.tru h1) h1⟩
/-- .. a row of expressions: their values, and, or of them as a value, as a test -/
structure PL where
  nil : Bool
  l : Env → Hh → R (List D)
  an : Env → Hh → R D
  on : Env → Hh → R D
  at_ : Env → Hh → R Bool
  ot : Env → Hh → R Bool
/-- a slice's part -/
def vPart (m : Bool) (p : P) (ρ : Env) (h : Hh) : R (Option Int) := if m then .ok none h else (p.v ρ h).bind fun d h1 => R.opt (d.isInt.map some) h1
/-- one turn of a comprehension -/
def lcTurn (t : Tg) (c e : P) (ρ : Env) (x : D) (h : Hh) : R (Option D) := match t.put x ρ with
  | none => .bad
  | some ρ' => (c.t ρ' h).bind fun ok h3 => if ok then (e.v ρ' h3).bind fun y h4 => .ok (some y) h4 else .ok none h3
def dcEnd (y z : D) (h : Hh) : R (Option (Key × D)) := match y.key with
  | some q => .ok (some (q, z)) h
  | none => .bad
def dcTurn (t : Tg) (c k v : P) (ρ : Env) (x : D) (h : Hh) : R (Option (Key × D)) := match t.put x ρ with
  | none => .bad
  | some ρ' => (c.t ρ' h).bind fun ok h3 => if ok then (k.v ρ' h3).bind fun y h4 => (v.v ρ' h4).bind fun z h5 => dcEnd y z h5 else .ok none h3
def vBl (x : D) (h : Hh) : R Bool := R.opt x.isBl h
/-- a written tuple -/
def D.isF : D → Bool
  | .ftup _ => true
  | .exc _ => true
  | .exf _ _ _ => true
  | _ => false
/-- isinstance of a caught exception -/
def isxOp (yes no : List Str) : D → Option D
  | .exc k => if k ∈ yes then some (.bl true) else if k ∈ no then some (.bl false) else none
  | .exf k _ _ => if k ∈ yes then some (.bl true) else if k ∈ no then some (.bl false) else none
  | _ => none
def fldOp (f : Str) (ks : List Str) : D → Option D
  | .exf k g d => if g = f ∧ k ∈ ks then some d else none
  | _ => none
def isi2Op (h : Hh) (x : D) : Bool := opIsi .tup h x || opIsi .lst h x
/-- what t.index goes through -/
def D.ixs (h : Hh) : D → Option (List D)
  | .ftup xs => some xs
  | .lst xs => some xs
  | .fz xs => some xs
  | .ref i => match h[i]? with
    | some (.lst xs) => some xs
    | _ => none
  | _ => none
def idxD (ds : List D) : List D → Option D
  | [.int z] => (D.ints ds).bind fun ns => if z ∈ ns then some (.int (ns.idxOf z : Nat)) else none
  | _ => none
def ixD (x : D) (h : Hh) (xs : List D) : Option D := (x.ixs h).bind fun ds => idxD ds xs
def mthI (po : P) (pl : PL) : P := .plain fun ρ h => (po.v ρ h).bind fun x h1 => if (x.ixs h1).isSome then (pl.l ρ h1).bind fun xs h2 => R.opt (ixD x h2 xs) h2 else .bad
def mthP (m : Mt) (po : P) (pl : PL) : P := match m with
  | .index => mthI po pl
  | m => .plain fun ρ h => (po.v ρ h).bind fun x h1 => if x.isL h1 then (pl.l ρ h1).bind fun xs h2 => mthOp m x xs h2 else .bad
section
variable (F : Fns) (G : List D)
mutual
def evE : E → P
  | .var i => .plain fun ρ h => match ρ[i]? with
    | some (some d) => .ok d h
    | _ => .bad
  | .con d => .plain fun _ h => .ok d h
  | .glo i => .plain fun _ h => R.opt G[i]? h
  | .miss => ⟨fun _ h => .ok .non h, fun _ h => .ok true h⟩
  | .tup es => .plain fun ρ h => ((evEs es).l ρ h).bind fun xs h1 => if sizeOk xs.length then .ok (.tup xs) h1 else .bad
  | .ftup es => .plain fun ρ h => ((evEs es).l ρ h).bind fun xs h1 => if sizeOk xs.length then .ok (.ftup xs) h1 else .bad
  | .lst es => .plain fun ρ h => ((evEs es).l ρ h).bind fun xs h1 => if sizeOk xs.length then .ok (.lst xs) h1 else .bad
  | .new e => .plain fun ρ h => ((evE e).v ρ h).bind newObj
  | .dic0 => .plain fun _ h => .ok (.ref h.length) (h ++ [.dct []])
  | .bin o a b => .plain fun ρ h => ((evE a).v ρ h).bind fun x h1 => ((evE b).v ρ h1).bind fun y h2 => R.opt (opBin o h2 x y) h2
  | .neg a => .plain fun ρ h => ((evE a).v ρ h).bind fun x h1 => R.opt (x.isInt.map fun i => .int (-i)) h1
  | .cmp o a b => .plain fun ρ h => ((evE a).v ρ h).bind fun x h1 => ((evE b).v ρ h1).bind fun y h2 => R.opt ((opCmp o h2 x y).map D.bl) h2
  | .chain o p a b c => .plain fun ρ h => ((evE a).v ρ h).bind fun x h1 => ((evE b).v ρ h1).bind fun y h2 => (R.opt (opCmp o h2 x y) h2).bind fun t h3 =>
      if t then ((evE c).v ρ h3).bind fun z h4 => R.opt ((opCmp p h4 y z).map D.bl) h4 else .ok (.bl false) h3
  | .and a r => ⟨fun ρ h => ((evE a).v ρ h).bind fun x h1 => (vBl x h1).bind fun t h2 => if t then (evEs r).an ρ h2 else .ok (.bl false) h2,
      fun ρ h => ((evE a).t ρ h).bind fun t h1 => if t then (evEs r).at_ ρ h1 else .ok false h1⟩
  | .or a r => ⟨fun ρ h => ((evE a).v ρ h).bind fun x h1 => (vBl x h1).bind fun t h2 => if t then .ok (.bl true) h2 else (evEs r).on ρ h2,
      fun ρ h => ((evE a).t ρ h).bind fun t h1 => if t then .ok true h1 else (evEs r).ot ρ h1⟩
  | .not a => ⟨fun ρ h => ((evE a).v ρ h).bind fun x h1 => (vBl x h1).bind fun t h2 => .ok (.bl (!t)) h2,
      fun ρ h => ((evE a).t ρ h).bind fun t h1 => .ok (!t) h1⟩
  | .ite c a b => ⟨fun ρ h => ((evE c).t ρ h).bind fun t h1 => if t then (evE a).v ρ h1 else (evE b).v ρ h1,
      fun ρ h => ((evE c).t ρ h).bind fun t h1 => if t then (evE a).t ρ h1 else (evE b).t ρ h1⟩
  | .idx a i => .plain fun ρ h => ((evE a).v ρ h).bind fun x h1 => ((evE i).v ρ h1).bind fun y h2 => R.opt (opIdx h2 x y) h2
  | .slc a lo hi => .plain fun ρ h => ((evE a).v ρ h).bind fun x h1 => (vPart lo.isMiss (evE lo) ρ h1).bind fun l h2 => (vPart hi.isMiss (evE hi) ρ h2).bind fun u h3 => R.opt (opSlc h3 x l u) h3
  | .call f es => .plain fun ρ h => ((evEs es).l ρ h).bind fun xs h1 => F f xs h1
  | .callK f es kes ks => .plain fun ρ h => ((evEs es).l ρ h).bind fun xs h1 => ((evEs kes).l ρ h1).bind fun ys h2 => F f (pmD .non ks xs ys) h2
  | .bf f es => .plain fun ρ h => ((evEs es).l ρ h).bind fun xs h1 => R.opt (opBf f h1 xs) h1
  | .isi a t => .plain fun ρ h => ((evE a).v ρ h).bind fun x h1 => if x.isF then .bad else .ok (.bl (opIsi t h1 x)) h1
  | .mth m o es => mthP m (evE o) (evEs es)
  | .lc t it c e => .plain fun ρ h => (evI it ρ h).bind fun s h1 => if sizeOk s.items.length then lcLoop s.good (lcTurn t (evE c) (evE e) ρ) s.items [] h1 else .bad
  | .tenum a => .plain fun ρ h => ((evE a).v ρ h).bind fun x h1 => R.opt (tenumOp x) h1
  | .sset a => .plain fun ρ h => ((evE a).v ρ h).bind fun x h1 => R.opt (ssetOp h1 x) h1
  | .dcl t it c k v => .plain fun ρ h => (evI it ρ h).bind fun s h1 => if sizeOk s.items.length then (dcLoop s.good (dcTurn t (evE c) (evE k) (evE v) ρ) s.items [] h1).bind newDct else .bad
  | .trng a => .plain fun ρ h => ((evE a).v ρ h).bind fun x h1 => R.opt (trngOp x) h1
  | .isi2 a => .plain fun ρ h => ((evE a).v ρ h).bind fun x h1 => if x.isF then .bad else .ok (.bl (isi2Op h1 x)) h1
  | .isx a _ yes no => .plain fun ρ h => ((evE a).v ρ h).bind fun x h1 => R.opt (isxOp yes no x) h1
  | .fld a f ks => .plain fun ρ h => ((evE a).v ρ h).bind fun x h1 => R.opt (fldOp f ks x) h1
  | .mkf _ _ _ e => .plain (evE e).v
  | .isv a yes => .plain fun ρ h => ((evE a).v ρ h).bind fun x h1 => R.opt (isxOp yes [] x) h1
  | .bad => .plain fun _ _ => .bad
def evEs : Es → PL
  | .nil => ⟨true, fun _ h => .ok [] h, fun _ _ => .bad, fun _ _ => .bad, fun _ _ => .bad, fun _ _ => .bad⟩
  | .cons e es => ⟨false,
      fun ρ h => ((evE e).v ρ h).bind fun x h1 => ((evEs es).l ρ h1).bind fun xs h2 => .ok (x :: xs) h2,
      fun ρ h => if (evEs es).nil then (evE e).v ρ h else ((evE e).v ρ h).bind fun x h1 => (vBl x h1).bind fun t h2 => if t then (evEs es).an ρ h2 else .ok (.bl false) h2,
      fun ρ h => if (evEs es).nil then (evE e).v ρ h else ((evE e).v ρ h).bind fun x h1 => (vBl x h1).bind fun t h2 => if t then .ok (.bl true) h2 else (evEs es).on ρ h2,
      fun ρ h => if (evEs es).nil then (evE e).t ρ h else ((evE e).t ρ h).bind fun t h1 => if t then (evEs es).at_ ρ h1 else .ok false h1,
      fun ρ h => if (evEs es).nil then (evE e).t ρ h else ((evE e).t ρ h).bind fun t h1 => if t then .ok true h1 else (evEs es).ot ρ h1⟩
def evI : I → Env → Hh → R Src
  | .ev e, ρ, h => ((evE e).v ρ h).bind fun x h1 => R.opt (x.src h1) h1
  | .rng n, ρ, h => ((evE n).v ρ h).bind fun x h1 => R.opt (x.isInt.bind fun n => if rngOk 0 n then some ⟨rngD 0 n, none⟩ else none) h1
  | .rng2 a b, ρ, h => ((evE a).v ρ h).bind fun x h1 => ((evE b).v ρ h1).bind fun y h2 => R.opt (x.isInt.bind fun i => y.isInt.bind fun j => if rngOk i j then some ⟨rngD i j, none⟩ else none) h2
  | .zip a b, ρ, h => ((evE a).v ρ h).bind fun x h1 => ((evE b).v ρ h1).bind fun y h2 => R.opt (zipSrc x y) h2
  | .enum a, ρ, h => ((evE a).v ρ h).bind fun x h1 => R.opt (enumSrc x) h1
end

/-! ### statements -/
inductive RS where
  | bad | nxt (ρ : Env) (h : Hh) | ret (d : D) (h : Hh) | brk (ρ : Env) (h : Hh) | cnt (ρ : Env) (h : Hh) | err (ρ : Env) (x : Xc) (h : Hh)
def R.then_ {α : Type} (r : R α) (f : α → Hh → RS) : RS := match r with
  | .bad => .bad
  | .ok a h => f a h
  | .err _ _ => .bad
/-- a call whose exception goes on -/
def R.thenX {α : Type} (r : R α) (ρ : Env) (f : α → Hh → RS) : RS := match r with
  | .bad => .bad
  | .ok a h => f a h
  | .err x h => .err ρ x h
@[simp] theorem R.then_ok {α : Type} (a : α) (h : Hh) (f : α → Hh → RS) : (R.ok a h).then_ f = f a h := rfl
@[simp] theorem R.then_bad {α : Type} (f : α → Hh → RS) : (R.bad : R α).then_ f = .bad := rfl
def RS.then_ (r : RS) (f : Env → Hh → RS) : RS := match r with
  | .nxt ρ h => f ρ h
  | r => r
def RS.opt (o : Option Env) (h : Hh) : RS := match o with
  | some ρ => .nxt ρ h
  | none => .bad
def whlLoop (c : Env → Hh → R Bool) (b : Env → Hh → RS) : Nat → Env → Hh → RS
  | 0, _, _ => .bad
  | n + 1, ρ, h => (c ρ h).then_ fun t h1 => if t then (match b ρ h1 with
      | .nxt ρ' h' => whlLoop c b n ρ' h'
      | .cnt ρ' h' => whlLoop c b n ρ' h'
      | .brk ρ' h' => .nxt ρ' h'
      | r => r) else .nxt ρ h1
def forLoop (good : Hh → Bool) (t : Tg) (b : Env → Hh → RS) : List D → Env → Hh → RS
  | [], ρ, h => if good h then .nxt ρ h else .bad
  | x :: xs, ρ, h => if good h then (match t.put x ρ with
      | none => .bad
      | some ρ1 => match b ρ1 h with
        | .nxt ρ' h' => forLoop good t b xs ρ' h'
        | .cnt ρ' h' => forLoop good t b xs ρ' h'
        | .brk ρ' h' => .nxt ρ' h'
        | r => r) else .bad
/-- so many turns a while may take -/
def wfuel : Nat := 2 ^ 64
def kill : List Nat → Env → Env
  | [], ρ => ρ
  | i :: is, ρ => kill is (ρ.set i none)
def Env.rlt (n : Nat) (ρ : Env) : Bool := ρ.all fun o => match o with
  | some d => d.rlt n
  | none => true
/-- names forgotten, then the objects from n on, if nothing leads to them -/
def gcS (ks : List Nat) (n : Nat) (r : RS) : RS := match r with
  | .nxt ρ h => if Env.rlt n (kill ks ρ) && Hh.rlt (h.take n) n then .nxt (kill ks ρ) (h.take n) else .bad
  | .brk ρ h => if Env.rlt n (kill ks ρ) && Hh.rlt (h.take n) n then .brk (kill ks ρ) (h.take n) else .bad
  | .cnt ρ h => if Env.rlt n (kill ks ρ) && Hh.rlt (h.take n) n then .cnt (kill ks ρ) (h.take n) else .bad
  | r => r
def stoOp (o i x : D) (h : Hh) : Option Hh := match o with
  | .ref r => match h[r]? with
    | some (.lst ys) => match i with
      | .int k => match ixN ys.length k with
        | some j => some (h.set r (.lst (ys.set j x)))
        | none => none
      | _ => none
    | some (.dct kvs) => match i.key with
      | some k => if sizeOk (kvs.length + 1) then some (h.set r (.dct (putD kvs k x))) else none
      | none => none
    | none => none
  | _ => none
/-- a list grown by another one -/
def augLOp (r : Nat) (y : D) (h : Hh) : Option Hh := match h[r]?, y.own h with
  | some (.lst xs), some ys => if sizeOk (xs.length + ys.length) then some (h.set r (.lst (xs ++ ys))) else none
  | _, _ => none
/-- what the clause takes -/
def catchS (yes no : List Str) (f : Env → Hh → RS) (r : RS) : RS := match r with
  | .err ρ x h => if x.cls ∈ yes then f ρ h else if x.cls ∈ no then .err ρ x h else .bad
  | r => r
/-- .. and names -/
def dropS (i : Nat) (r : RS) : RS := match r with
  | .nxt ρ h => .nxt (ρ.set i none) h
  | .brk ρ h => .brk (ρ.set i none) h
  | .cnt ρ h => .cnt (ρ.set i none) h
  | r => r
def catchAs (yes no : List Str) (i : Nat) (f : Env → Hh → RS) (r : RS) : RS := match r with
  | .err ρ x h => if x.cls ∈ yes then dropS i (f (ρ.set i (some x.d)) h) else if x.cls ∈ no then .err ρ x h else .bad
  | r => r
mutual
def evS : S → Env → Hh → RS
  | .asg i e, ρ, h => ((evE F G e).v ρ h).then_ fun x h1 => .nxt (ρ.set i (some x)) h1
  | .asgLc i e, ρ, h => ((evE F G e).v ρ h).then_ fun x h1 => .nxt (ρ.set i (some x)) h1
  | .par i j a b, ρ, h => ((evE F G a).v ρ h).then_ fun x h1 => ((evE F G b).v ρ h1).then_ fun y h2 => .nxt ((ρ.set i (some x)).set j (some y)) h2
  | .unp is e, ρ, h => ((evE F G e).v ρ h).then_ fun x h1 => RS.opt ((Tg.tu is).put x ρ) h1
  | .sto o i e, ρ, h => ((evE F G e).v ρ h).then_ fun x h1 => ((evE F G o).v ρ h1).then_ fun y h2 => ((evE F G i).v ρ h2).then_ fun z h3 => match stoOp y z x h3 with
    | some h4 => .nxt ρ h4
    | none => .bad
  | .aug i o e, ρ, h => match ρ[i]? with
    | some (some x) => ((evE F G e).v ρ h).then_ fun y h1 => match augOp o x y with
      | some z => .nxt (ρ.set i (some z)) h1
      | none => .bad
    | _ => .bad
  | .augL i e, ρ, h => match ρ[i]? with
    | some (some (.ref r)) => ((evE F G e).v ρ h).then_ fun y h1 => match augLOp r y h1 with
      | some h2 => .nxt (ρ.set i (some (.ref r))) h2
      | none => .bad
    | _ => .bad
  | .exp e, ρ, h => ((evE F G e).v ρ h).then_ fun _ h1 => .nxt ρ h1
  | .ret e, ρ, h => ((evE F G e).v ρ h).then_ fun x h1 => .ret x h1
  | .retN, _, h => .ret .non h
  | .ite c a b, ρ, h => ((evE F G c).t ρ h).then_ fun t h1 => if t then evSs a ρ h1 else evSs b ρ h1
  | .whl c b, ρ, h => whlLoop (evE F G c).t (evSs b) wfuel ρ h
  | .for_ t it b, ρ, h => (evI F G it ρ h).then_ fun s h1 => forLoop s.good t (evSs b) s.items ρ h1
  | .pass, ρ, h => .nxt ρ h
  | .brk, ρ, h => .brk ρ h
  | .cnt, ρ, h => .cnt ρ h
  | .gc ks b, ρ, h => gcS ks h.length (evS b ρ h)
  | .asgC i f es, ρ, h => ((evEs F G es).l ρ h).then_ fun xs h1 => (F f xs h1).thenX ρ fun x h2 => .nxt (ρ.set i (some x)) h2
  | .expC f es, ρ, h => ((evEs F G es).l ρ h).then_ fun xs h1 => (F f xs h1).thenX ρ fun _ h2 => .nxt ρ h2
  | .retC f es, ρ, h => ((evEs F G es).l ρ h).then_ fun xs h1 => (F f xs h1).thenX ρ fun x h2 => .ret x h2
  | .raise_ c, ρ, h => .err ρ ⟨c, none⟩ h
  | .try_ b _ yes no s, ρ, h => catchS yes no (evSs s) (evSs b ρ h)
  | .tryAs b _ yes no i s, ρ, h => catchAs yes no i (evSs s) (evSs b ρ h)
  | .tryAP b _ yes no i i1 j1 a1 b1 s, ρ, h => catchAs yes no i (fun ρ h => (((evE F G a1).v ρ h).then_ fun x h1 => ((evE F G b1).v ρ h1).then_ fun y h2 => .nxt ((ρ.set i1 (some x)).set j1 (some y)) h2).then_ (evSs s)) (evSs b ρ h)
  | .raiseE c e, ρ, h => ((evE F G e).v ρ h).then_ fun _ h1 => .err ρ ⟨c, none⟩ h1
  | .raiseF c f e, ρ, h => ((evE F G e).v ρ h).then_ fun x h1 => .err ρ ⟨c, some (f, x)⟩ h1
  | .bad, _, _ => .bad
def evSs : Ss → Env → Hh → RS
  | .nil, ρ, h => .nxt ρ h
  | .cons s ss, ρ, h => (evS s ρ h).then_ (evSs ss)
end
end

/-- of exception classes: (made, named in a clause, whether it is taken); (caught, asked, answer); (caught, its field) -/
structure Xm where
  m : List (Str × Str × Bool)
  i : List (Str × Str × Bool)
  f : List (Str × Str)
  /-- asked whether it is a ValueError -/
  v : List Str

/-! ### defs -/
structure Fn where
  name : Str
  N : List Str
  P : List Str
  frz : Bool
  body : Ss
  /-- its own name, where the module's name for it is another one -/
  dn : Str := name
  /-- the shapes of its calls with keywords: so many in front, these names, the order -/
  kw : List (Nat × List Str × List Nat) := []
/-- the objects from n on, as they stand -/
def D.frz (h : Hh) (n : Nat) : Nat → D → D
  | 0, d => d
  | k + 1, d => match d with
    | .ref i => if i < n then .ref i else match h[i]? with
      | some (.lst xs) => .lst (xs.map (D.frz h n k))
      | _ => .ref i
    | .tup xs => .tup (xs.map (D.frz h n k))
    | .lst xs => .lst (xs.map (D.frz h n k))
    | d => d
/-- a def's end: its lists are from now on never changed (frz), what it made is let go -/
def finD (f : Bool) (n : Nat) (d : D) (h : Hh) : R D :=
  if f then (if (d.frz h n 4).rlt n && Hh.rlt (h.take n) n then .ok (d.frz h n 4) (h.take n) else .bad) else .ok d h
def finR (f : Bool) (n : Nat) (r : RS) : R D := match r with
  | .ret d h => finD f n d h
  | .nxt _ h => finD f n .non h
  | .err _ x h => .err x h
  | _ => .bad
def callN (T : List Fn) (G : List D) : Nat → Fns
  | 0 => fun _ _ _ => .bad
  | k + 1 => fun f args h => match T[f]? with
    | none => .bad
    | some fn => if args.length = fn.P.length then finR fn.frz h.length (evSs (callN T G k) G fn.body (args.map some ++ List.replicate (fn.N.length - args.length) none) h) else .bad
end PV
end

section
set_option maxRecDepth 100000
/-! PvX: a set made of a list of ints, sorted. -/
namespace PVX
open PySem L2 PyProof.Rows PySem.Spec
abbrev oS (w : World) : Obj := { cls := .type "set", dict := none, data := .set #[] 0 (.fresh 0 0 (!w.params.followText "set-order")) }
abbrev gS (w : World) (h : Heap) : Heap := h.push (oS w)
/-- the heap behind set(l) -/
def After (w : World) (s : Shared) (ns : List Int) (v : Value) (s2 : Shared) : Prop := v = .none ∧ ∃ (g : Heap) (tk c : Nat), s2 = { s with heap := g, toks := tk } ∧ SetR w g s.heap.objs.size (fun j => decide (j ∈ ns)) c ∧ c ≤ ns.length ∧ ∀ b o, s.heap.get? b = some o → g.get? b = some o
section
variable {P : Program} {w : World} {A : Around} {s : Shared} {E : Value → Shared → Prop}
set_option maxHeartbeats 3100000 in
theorem init_list {l : Addr} {items : Array Value} (ns : List Int) (hh : A.handled = none) (hl : s.heap.IsList l items) (hit : IntsAre items.toList ns) (hb : ns.length + 1 < scanBound) :
    codeAny (model P w) A (.call (.builtin "set.__init__") ⟨[.ref s.heap.objs.size, .ref l], []⟩) (wants (After w s ns) E) { s with heap := gS w s.heap } := by
  have zi : items.size = ns.length := by rw [← Array.length_toList]; exact IntsAre.length hit
  have at0 : (gS w s.heap).get? s.heap.objs.size = some (oS w) := Heap.get?_push_size _ rfl
  have ty0 : Shared.TypeIs { s with heap := gS w s.heap } (.ref s.heap.objs.size) "set" := ⟨_, at0, rfl⟩
  refine codeAny_call_builtin F.called_set.init.plain F.entry_set_init (check_set_init_1 ty0 ?_)
  have ll : (gS w s.heap).IsList l items := hl.push _
  obtain ⟨⟨cl, dc, dt, sl⟩, got, ec, nl, ed⟩ := hl
  cases (show cl = .type "list" from ec)
  cases (show dt = .seq items nl from ed)
  have got1 : (gS w s.heap).get? l = some { cls := .type "list", dict := dc, data := .seq items nl, slots := sl } := Heap.get?_push_of_some _ got
  have f1 := F.sub_list_set
  have f2 := F.sub_list_frozenset
  have f3 : (Value.type "list" == Value.type "dict") = false := by decide
  (unfold Builtin.«set.__init__» noKeywords Builtin.Frozenset.updateFrom)
  generalize q : pyIter = it0
  wp_walk
  subst q
  refine wpAny_pyIter_list ll (wpAny_bind (wpAny_runValue ?_))
  have lts : l < s.heap.objs.size := Heap.lt_size got
  have z1 : (gS w s.heap).objs.size = s.heap.objs.size + 1 := Heap.size_push ..
  have n1 : l ≠ (gS w s.heap).objs.size := Nat.ne_of_lt (Nat.lt_of_lt_of_le lts (by rw [z1]; exact Nat.le_succ _))
  have n2 : s.heap.objs.size ∉ [(gS w s.heap).objs.size, l] := by
    intro hm
    (rcases List.mem_cons.mp hm with e | e)
    · rw [z1] at e; omega
    · exact Nat.lt_irrefl _ (Nat.lt_of_le_of_lt (Nat.le_of_eq (List.mem_singleton.mp e)) lts)
  refine set_update_ints ((Walks.list (by simpa using hh) _ l n1 items).toS) s.heap.objs.size n2 ns zi hb (fun i v hv => ?_) (items.size - 0) 0 _ (Nat.sub_zero _) (Nat.zero_le _) ⟨⟨_, Heap.get?_push_size _ rfl, rfl, rfl⟩, ll.push _⟩ ⟨0, Nat.le_refl 0, setR_new_at (Heap.get?_push_of_some _ at0)⟩ ?_
  · have lt : i < ns.length := by rw [← zi]; exact (Array.getElem?_eq_some_iff.mp hv).1
    obtain ⟨t, e⟩ := IntsAre.int_at hit i v (by rw [Array.getElem?_toList]; exact hv)
    exact ⟨ns[i], t, List.getElem?_eq_getElem lt, by rw [e, List.getD_eq_getElem?_getD, List.getElem?_eq_getElem lt] <;> rfl⟩
  · rintro ⟨g, gn, dr, tk, os⟩ c mv hc sr
    cases (show gn = s.gens from mv.gens)
    cases (show dr = s.drawn from mv.drawn)
    cases (show os = s.os from mv.os)
    refine wpAny_pure (wpAny_pure ⟨rfl, g, tk, c, rfl, sr, by rw [← zi]; exact hc, fun b o e => ?_⟩)
    have lb : b < s.heap.objs.size := Heap.lt_size e
    refine mv.heap b o (fun hm => ?_) (Heap.get?_push_of_some _ (Heap.get?_push_of_some _ e))
    rcases List.mem_cons.mp hm with e2 | e2
    · have e2 : b = s.heap.objs.size := e2
      exact Nat.ne_of_lt lb e2
    · have e2 : b = (gS w s.heap).objs.size := List.mem_singleton.mp e2
      rw [z1] at e2; exact Nat.ne_of_lt (Nat.lt_succ_of_lt lb) e2
/-- set(l) of a list of ints -/
theorem call_set_lst {l : Addr} {items : Array Value} (ns : List Int) {Q : Value → Shared → Prop} (hh : A.handled = none) (hl : s.heap.IsList l items) (hit : IntsAre items.toList ns) (hb : ns.length + 1 < scanBound)
    (hQ : ∀ (g : Heap) (tk c : Nat), SetR w g s.heap.objs.size (fun j => decide (j ∈ ns)) c → c ≤ ns.length → (∀ b o, s.heap.get? b = some o → g.get? b = some o) → Q (.ref s.heap.objs.size) { s with heap := g, toks := tk }) :
    (wpAny (model P w) A (call (.type "set") [.ref l]) Q E s) := by
  have ft := F.called_set
  obtain ⟨c0, tl, hmro⟩ := ft.mro
  have hmade := ft.made
  have hsub := ft.sub
  (refine wpAny_call (codeAny_of_tree ?_))
  (show wpAny _ _ (callAny (.type "set") _) _ _ _)
  (refine wpAny_pure ⟨Code.quiet_builtin _ (by decide +kernel), codeAny_builtin F.entry_type_call ?_⟩)
  (rw [Around.under_plain (weight_type_call_type "set" [.ref l] []) rfl])
  have k1 := ft.notType
  have k2 := ft.canCreate
  have k3 := F.typeCall_set_1 (.ref l)
  repeat any_goals (first | assumption | wp_step)
  refine codeAny_mono (code_set_led1 (.ref l) (E := E) (Q₁ := fun v s1 => v = .ref s.heap.objs.size ∧ s1 = { s with heap := gS w s.heap }) ⟨rfl, rfl⟩) fun r s1 hr => ?_
  cases r with
  | error e => exact hr
  | ok fl => cases fl with
    | ret v =>
      obtain ⟨rfl, rfl⟩ := hr
      have k4 : Shared.TypeIs { s with heap := gS w s.heap } (.ref s.heap.objs.size) "set" := ⟨_, Heap.get?_push_size _ rfl, rfl⟩
      have k5 := ft.init.lookup
      have k6 := ft.init.bind (.ref s.heap.objs.size)
      repeat any_goals (first | assumption | wp_step)
      refine codeAny_mono (init_list (E := E) ns (A := A.in1) hh hl hit hb) fun r2 s2 hr2 => ?_
      cases r2 with
      | error e => exact hr2
      | ok fl2 => cases fl2 with
        | ret v2 =>
          obtain ⟨rfl, g, tk, c, rfl, sr, hc, keep⟩ := hr2
          repeat any_goals (first | assumption | wp_step)
          exact hQ g tk c sr hc keep
        | _ => exact hr2.elim
    | _ => exact hr.elim
/-- what stands behind a collecting of a sequence -/
def Got (s : Shared) (its : Array Value) (s2 : Shared) : Prop := s2 = { s with heap := (s.heap.push { cls := .type "list", data := .seq ([] : List Value).toArray }).update s.heap.objs.size (Obj.mapSeq (· ++ its)) }
theorem collect_seqX {Q : List Value → Shared → Prop} {a : Addr} {T : String} {o : Obj} {its : Array Value} {n : Nat} (hT : T = "list" ∨ T = "tuple") (ho : s.heap.get? a = some o) (hc : o.cls = .type T) (hd : o.data = .seq its n) (hz : its.size ≤ sizeLine)
    (hQ : ∀ g : Heap, (∀ b o2, s.heap.get? b = some o2 → g.get? b = some o2) → s.heap.objs.size ≤ g.objs.size → Q its.toList { s with heap := g }) : wpAny (model P w) A (collect (.ref a)) Q E s := by
  have k0 : (s.heap.push { cls := .type "list", data := .seq ([] : List Value).toArray }).get? s.heap.objs.size = some { cls := .type "list", data := .seq ([] : List Value).toArray } := Heap.get?_push_size _ rfl
  have k1 := Heap.get?_update_self (Obj.mapSeq (· ++ its)) k0 rfl
  have close : ∀ s2, Got s its s2 → wpAny (model P w) A (load s.heap.objs.size >>= fun ob => match ob.data with
      | .seq xs _ => pure xs.toList
      | _ => unsupported "internal:collect") Q E s2 := fun s2 e => by
    subst e
    refine wpAny_bind (wpAny_load k1 (wpAny_pure ?_))
    have e2 : ((#[] : Array Value) ++ its).toList = its.toList := by simp
    (show Q ((#[] : Array Value) ++ its).toList _)
    rw [e2]
    exact hQ _ (fun b o2 hb => (Heap.get?_update_other _ _ (Nat.ne_of_gt (Heap.lt_size hb))).trans (Heap.get?_push_of_some _ hb)) (by rw [Heap.size_update, Heap.size_push]; exact Nat.le_succ _)
  unfold collect
  refine wpAny_bind (wpAny_runValue (codeAny_builtin F.entry_proto_collect ?_)); rw [Around.under_plainId F.plain_proto_collect _]
  (show wpAny _ A.in1 (newList [] >>= fun l => again (.builtin "list.__iadd__" ⟨[l, .ref a], []⟩)) _ _ s)
  refine wpAny_bind (wpAny_newObj_type (wpAny_pure ⟨plainId_quiet F.plain_list_iadd _, codeAny_builtin F.entry_list_iadd ?_⟩)); rw [Around.under_plainId F.plain_list_iadd _]
  refine wpAny_mono (wpAny_extend_seq (hsz := hz) (A := A) (R := fun r s2 => r = .ok (.ret (.ref s.heap.objs.size)) ∧ Got s its s2) (s := { s with heap := s.heap.push { cls := .type "list", data := .seq ([] : List Value).toArray } }) _ a _ 0 hT k0 (Heap.get?_push_of_some _ ho) hc hd ⟨rfl, rfl⟩) (fun fin s2 r => ?_) (fun e s2 r => ?_)
  · cases fin with
    | done f => obtain ⟨e, r⟩ := r; cases e; exact close s2 r
    | again c => exact ⟨r.1, codeAny_mono r.2 fun rr s3 ⟨e, r⟩ => by subst e; exact close s3 r⟩
  · exact absurd r.1 (by simp)
/-- sorted(xs) of a list or a tuple -/
theorem sorted_seqI {ns : List Int} {Q : Value → Shared → Prop} {a : Addr} {T : String} {o : Obj} {its : Array Value} {n : Nat} (hT : T = "list" ∨ T = "tuple") (ho : s.heap.get? a = some o) (hc : o.cls = .type T) (hd : o.data = .seq its n) (hI : IntsAre its.toList ns) (h64 : ns.length < 64)
    (hQ : ∀ (p : Addr) (g : Heap) (c : Nat) (out : Array Value) (ns2 : List Int), (∀ b o2, s.heap.get? b = some o2 → g.get? b = some o2) → s.heap.objs.size ≤ p → g.get? p = some (seqObj "list" out c) → IntsAre out.toList ns2 → ns2.Perm ns → ns2.Pairwise (· ≤ ·) → Q (.ref p) { s with heap := g }) :
    (wpAny (model P w) A (call (.builtin "sorted") [.ref a]) Q E s) := by
  have zl : its.toList.length = ns.length := IntsAre.length hI
  have zz : its.size = ns.length := by rw [← zl, Array.length_toList]
  (refine Calls.call_function_entry kind_sorted plain_sorted entry_sorted (args_sorted1 _) ?_)
  unfold Builtin.«sorted»
  refine wpAny_bind (m := checkCount "sorted" 1 1 _) (wpAny_pure (wpAny_bind (collect_seqX (A := A.in1) hT ho hc hd (by rw [zz, sizeLine_eq]; omega) fun g keep hsz => wpAny_bind (wpAny_newList ?_ (by rw [zl, sizeLine_eq]; omega)))))
  have at1 : (g.push (seqObj "list" its.toList.toArray 0)).get? g.objs.size = some (seqObj "list" its.toList.toArray 0) := Heap.get?_push_size _ rfl
  refine wpAny_bind (wpAny_holding (wpAny_call_entry slot_list_sort ⟨_, at1, rfl⟩ entry_list_sort (list_sort_tree at1 hI (by rw [zl]; exact h64) fun out ns2 a1 a2 a3 => ⟨_, rfl, ?_⟩) (args_list_sort _)))
  obtain ⟨c, hc⟩ := sortedHeap_at (vs := its.toList) (out := out) at1
  refine wpAny_pure ⟨_, rfl, hQ g.objs.size _ c out ns2 (fun b u e => ?_) hsz hc a1 a2 a3⟩
  have e := keep b u e
  have lt := Heap.lt_size e
  exact (sortedHeap_old (Nat.ne_of_lt lt) (by rw [size_push']; exact Nat.lt_succ_of_lt lt)).trans (Heap.get?_push_of_some _ e)
theorem sorted_seqS {ns : List Str} {Q : Value → Shared → Prop} {a : Addr} {T : String} {o : Obj} {its : Array Value} {n : Nat} (hT : T = "list" ∨ T = "tuple") (ho : s.heap.get? a = some o) (hc : o.cls = .type T) (hd : o.data = .seq its n) (hI : StrsAre its.toList ns) (h64 : ns.length < 64)
    (hQ : ∀ (p : Addr) (g : Heap) (c : Nat) (out : Array Value) (ns2 : List Str), (∀ b o2, s.heap.get? b = some o2 → g.get? b = some o2) → s.heap.objs.size ≤ p → g.get? p = some (seqObj "list" out c) → StrsAre out.toList ns2 → ns2.Perm ns → sortedS ns2 = true → Q (.ref p) { s with heap := g }) :
    (wpAny (model P w) A (call (.builtin "sorted") [.ref a]) Q E s) := by
  have zl : its.toList.length = ns.length := StrsAre.length hI
  have zz : its.size = ns.length := by rw [← zl, Array.length_toList]
  (refine Calls.call_function_entry kind_sorted plain_sorted entry_sorted (args_sorted1 _) ?_)
  unfold Builtin.«sorted»
  refine wpAny_bind (m := checkCount "sorted" 1 1 _) (wpAny_pure (wpAny_bind (collect_seqX (A := A.in1) hT ho hc hd (by rw [zz, sizeLine_eq]; omega) fun g keep hsz => wpAny_bind (wpAny_newList ?_ (by rw [zl, sizeLine_eq]; omega)))))
  have at1 : (g.push (seqObj "list" its.toList.toArray 0)).get? g.objs.size = some (seqObj "list" its.toList.toArray 0) := Heap.get?_push_size _ rfl
  refine wpAny_bind (wpAny_holding (wpAny_call_entry slot_list_sort ⟨_, at1, rfl⟩ entry_list_sort (list_sort_treeK strKind_oneLt at1 hI.keysOf (fun v1 v2 r e => keyKind_strs (by rw [← e]; exact hI)) (by rw [zl]; exact h64) fun st a1 a2 => ⟨_, rfl, ?_⟩) (args_list_sort _)))
  obtain ⟨ns2, b1, b2, b3⟩ := sorted_out_str hI a1 a2
  obtain ⟨c, hc⟩ := sortedHeap_at (vs := its.toList) (out := (arrOf st).map (·.2)) at1
  refine wpAny_pure ⟨_, rfl, hQ g.objs.size _ c _ ns2 (fun b u e => ?_) hsz hc b1 b2 b3⟩
  have e := keep b u e
  have lt := Heap.lt_size e
  exact (sortedHeap_old (Nat.ne_of_lt lt) (by rw [size_push']; exact Nat.lt_succ_of_lt lt)).trans (Heap.get?_push_of_some _ e)
end
section
variable {X : Cx}
def rSetL (K : PySem.W.Frag) (w : World) : List V → Hp → VK → Prop := fun xs H Q => ∃ (a : Addr) (ns : List Int), xs = [.ref a] ∧ SqL K H a (ns.map V.int) ∧ ns.length < 64 ∧ ∀ p c, H p = none → c ≤ ns.length → Q (.ref p) (upd H p (SetO w p (fun j => decide (j ∈ ns)) c))
theorem cr_setL (hc : X.calm = true) : CallR X (.type "set") (rSetL X.K X.w) := by
  intro pins s σ H xs us Q I r ⟨a, ns, e, hs, h64, q⟩
  subst e
  (obtain ⟨its, rv, hl, _⟩ := I.list hs)
  rw [Vals.ref1 r]
  have hi : IntsAre its.toArray.toList ns := by simpa using rv.ints
  exact call_set_lst ns (I.ok.hd hc) hl.isList hi (by unfold scanBound; omega) fun g tk c sr hc2 keep => ⟨.ref _, _, I.laid (t' := tk) keep (Nat.le_refl _) (setO_new sr), rfl, q _ c (I.hok.fresh (Nat.le_refl _)) hc2⟩
def rSrtI (K : PySem.W.Frag) : List V → Hp → VK → Prop := fun xs H Q => ∃ (a : Addr) (ns : List Int), xs = [.ref a] ∧ (SqL K H a (ns.map V.int) ∨ SqT K H a (ns.map V.int)) ∧ ns.length < 64 ∧ ∀ (ns2 : List Int) (p : Addr), ns2.Perm ns → ns2.Pairwise (· ≤ ·) → H p = none → Q (.ref p) (upd H p (.lst (ns2.map V.int)))
def rSrtS (K : PySem.W.Frag) : List V → Hp → VK → Prop := fun xs H Q => ∃ (a : Addr) (ns : List Str), xs = [.ref a] ∧ (SqL K H a (ns.map V.str) ∨ SqT K H a (ns.map V.str)) ∧ ns.length < 64 ∧ ∀ (ns2 : List Str) (p : Addr), ns2.Perm ns → sortedS ns2 = true → H p = none → Q (.ref p) (upd H p (.lst (ns2.map V.str)))
theorem cr_srtI : CallR X (.builtin "sorted") (rSrtI X.K) := by
  intro pins s σ H xs us Q I r ⟨a, ns, e, hs, h64, q⟩
  subst e
  rw [Vals.ref1 r]
  obtain ⟨its, T, o, n, rv, hT, ho, hc, hd⟩ : ∃ (its : List Value) (T : String) (o : Obj) (n : Nat), Vals (ns.map V.int) its ∧ (T = "list" ∨ T = "tuple") ∧ s.heap.get? a = some o ∧ o.cls = .type T ∧ o.data = .seq its.toArray n := by
    rcases hs with hs | hs
    · obtain ⟨its, rv, hl, _⟩ := I.list hs
      obtain ⟨o, ho, hc, n, hd⟩ := hl.isList
      exact ⟨its, _, o, n, rv, .inl rfl, ho, hc, hd⟩
    · obtain ⟨its, rv, ⟨o, ho, hc, n, hd⟩, _⟩ := I.tuple hs
      exact ⟨its, _, o, n, rv, .inr rfl, ho, hc, hd⟩
  refine sorted_seqI hT ho hc hd (by simpa using rv.ints) h64 fun p g c out ns2 keep hp hg a1 a2 a3 => ?_
  have hlen : (ns2.map V.int).length ≤ sizeLine := by rw [List.length_map, a2.length_eq]; exact small64 h64
  exact ⟨.ref p, _, I.laid (t' := s.toks) (o := .lst (ns2.map V.int)) keep hp ⟨hlen, out.toList, c, vals_of_ints a1, hg⟩, rfl, q ns2 p a2 a3 (I.hok.fresh hp)⟩
theorem cr_srtS : CallR X (.builtin "sorted") (rSrtS X.K) := by
  intro pins s σ H xs us Q I r ⟨a, ns, e, hs, h64, q⟩
  subst e
  rw [Vals.ref1 r]
  obtain ⟨its, T, o, n, rv, hT, ho, hc, hd⟩ : ∃ (its : List Value) (T : String) (o : Obj) (n : Nat), Vals (ns.map V.str) its ∧ (T = "list" ∨ T = "tuple") ∧ s.heap.get? a = some o ∧ o.cls = .type T ∧ o.data = .seq its.toArray n := by
    rcases hs with hs | hs
    · obtain ⟨its, rv, hl, _⟩ := I.list hs
      obtain ⟨o, ho, hc, n, hd⟩ := hl.isList
      exact ⟨its, _, o, n, rv, .inl rfl, ho, hc, hd⟩
    · obtain ⟨its, rv, ⟨o, ho, hc, n, hd⟩, _⟩ := I.tuple hs
      exact ⟨its, _, o, n, rv, .inr rfl, ho, hc, hd⟩
  refine sorted_seqS hT ho hc hd (by simpa using rv.strs) h64 fun p g c out ns2 keep hp hg a1 a2 a3 => ?_
  have hlen : (ns2.map V.str).length ≤ sizeLine := by rw [List.length_map, a2.length_eq]; exact small64 h64
  exact ⟨.ref p, _, I.laid (t' := s.toks) (o := .lst (ns2.map V.str)) keep hp ⟨hlen, out.toList, c, vals_of_strs a1, hg⟩, rfl, q ns2 p a2 a3 (I.hok.fresh hp)⟩
/-- a tuple times a number, more of them -/
def rTimes (K : PySem.W.Frag) : R2 := fun x y H Q => ∃ l k xs, x = .ref l ∧ y = .int k ∧ SqT K H l xs ∧ xs ≠ [] ∧ 2 ≤ k ∧ k ≤ 1000000 ∧ k.toNat * xs.length ≤ 1000000 ∧ ∀ p, H p = none → Q (.ref p) (upd H p (.tup (List.replicate k.toNat xs).flatten))
theorem op_times : OpR X (binaryOp .Mult) (rTimes X.K) := by
  intro pins s σ H x y v u Q I rx ry ⟨l, k, xs, ex, ey, hT, hne, k1, k2, kz, q⟩
  subst ex; subst ey
  cases rx
  obtain ⟨t, rfl⟩ := ry
  obtain ⟨its, r, ⟨⟨cls, dd, data, sl⟩, got, ec, n, ed⟩, _⟩ := I.tuple hT
  cases (show cls = .type "tuple" from ec)
  cases (show data = .seq its.toArray n from ed)
  have zl : its.length = xs.length := r.length.symm
  have lz : (its.toArray.size : Nat) = xs.length := by rw [List.size_toArray, zl]
  have pos : 0 < xs.length := List.length_pos_iff.mpr hne
  have kn : ((k.toNat : Nat) : Int) = k := Int.toNat_of_nonneg (by omega)
  have pz : ((its.toArray.size : Nat) : Int) * k ≤ 1000000 := by
    have z : ((k.toNat * xs.length : Nat) : Int) ≤ ((1000000 : Nat) : Int) := Int.ofNat_le.mpr kz
    rw [Int.natCast_mul, kn] at z
    rw [lz, Int.mul_comm]; exact z
  have em : its.toArray.isEmpty = false := by
    cases its with
    | nil => rw [List.length_nil] at zl; omega
    | cons _ _ => rfl
  have fl : (List.replicate k.toNat its).flatten.length ≤ sizeLine := by rw [PyProof.Rows.lm_len_rep_flat, zl, sizeLine_eq]; omega
  have d0 : (decide (k < -(2 ^ 63)) || decide (k ≥ 2 ^ 63)) = false := by
    (rw [decide_eq_false (by omega), decide_eq_false (by omega)] <;> rfl)
  have d1 : (its.toArray.isEmpty || k == 1) = false := by rw [em]; simp; omega
  have d2 : (decide (k ≤ 0) || its.toArray.isEmpty) = false := by rw [em]; simp; omega
  have d4 : Builtin.Tuple.tupleTooMany (((its.toArray.size : Nat) : Int) * k) = false := by
    unfold Builtin.Tuple.tupleTooMany; rw [sizeLine_eq]; exact decide_eq_false (by omega)
  have mul := tuple_mulW l its.toArray n dd sl k t d0 d1 d2 (by omega) d4 (by rw [size_rep, List.size_toArray]; exact fl)
  refine wpAny_binaryOp_repeat_ref (T := "tuple") (U := "int") (by decide) ⟨_, got, rfl⟩ (fun s2 => typeIs_int s2 k t) noFill_tuple_mul F.fills_int_mul F.slot_int_rmul repeat_tuple F.slot_int_index.lookup (call_meets F.slot_int_rmul (typeIs_int s k t) F.entry_int_rmul (F.args_int_rmul_2 _ _) (int_rmul_tuple k t l its.toArray n dd sl) ⟨got, rfl, ⟨_, got, rfl⟩, call_meets F.slot_tuple_mul ⟨_, got, rfl⟩ F.entry_tuple_mul (F.args_tuple_mul_2 _ _) mul ⟨got, ?_⟩⟩)
  rw [size_rep]
  exact ⟨.ref s.heap.objs.size, _, I.laid (t' := s.toks) (o := .tup (List.replicate k.toNat xs).flatten) (fun b ob e => Heap.get?_push_of_some _ e) (Nat.le_refl _) ⟨by rw [PyProof.Rows.lm_len_rep_flat, sizeLine_eq]; omega, _, r.rep k.toNat, IsTup.new _ _⟩, rfl, q _ (I.hok.fresh (Nat.le_refl _))⟩
end
end PVX
end

section
set_option maxRecDepth 100000
namespace PV
open L2 PySem PySem.Spec PyProof.Rows

/-- an exception object of the class cls, its dict d -/
def ExD (cls : Value) (d : Option Addr) (a : Addr) : HO := .ext fun h => ∃ (oe : Obj) (vs : Array Value), h.get? a = some oe ∧ L2N.Zn cls d oe ∧ oe.data = .fields vs
/-- where the mutable objects stand; addresses that no data may name -/
structure Jn where
  l : List Addr
  z : List Addr
section
variable (K : PySem.W.Frag)
mutual
/-- data as it lies in the heap -/
inductive RD (J : Jn) (H : Hp) : D → V → Prop
  | non : RD J H .non .non
  | bl (b : Bool) : RD J H (.bl b) (.bl b)
  | int (i : Int) : RD J H (.int i) (.int i)
  | str (x : Str) : RD J H (.str x) (.str x)
  | tup {a : Addr} {ds : List D} {vs : List V} : a ∉ J.l → a ∉ J.z → H a = some (.tup vs) → vs.length ≤ sizeLine → RDs J H ds vs → RD J H (.tup ds) (.ref a)
  | ktup {a : Addr} {ds : List D} {vs : List V} (k : ∃ (o : Obj) (its : Array Value) (n : Nat), K.lookup a = some o ∧ o.cls = .type "tuple" ∧ o.data = .seq its n ∧ its.size ≤ sizeLine ∧ Vals vs its.toList) : vs.length ≤ sizeLine → RDs J H ds vs → RD J H (.tup ds) (.ref a)
  | lst {a : Addr} {ds : List D} {vs : List V} : a ∉ J.l → a ∉ J.z → H a = some (.lst vs) → vs.length ≤ sizeLine → RDs J H ds vs → RD J H (.lst ds) (.ref a)
  | ref {i : Nat} {a : Addr} : J.l[i]? = some a → RD J H (.ref i) (.ref a)
  | fz {a : Addr} {o : Obj} {ds : List D} {vs : List V} : a ∉ J.l → a ∉ J.z → H a = some (.frz o (.lst vs)) → vs.length ≤ sizeLine → RDs J H ds vs → RD J H (.fz ds) (.ref a)
  | ft {a : Addr} {o : Obj} {ds : List D} {vs : List V} : a ∉ J.l → a ∉ J.z → H a = some (.frz o (.tup vs)) → o.cls = .type "tuple" → o.dict = none → vs.length ≤ sizeLine → RDs J H ds vs → RD J H (.ftup ds) (.ref a)
  | kfz {a : Addr} {ds : List D} {vs : List V} (k : ∃ (o : Obj) (its : Array Value) (n : Nat), K.lookup a = some o ∧ o.cls = .type "list" ∧ o.dict = none ∧ o.data = .seq its n ∧ its.size ≤ sizeLine ∧ Vals vs its.toList) : vs.length ≤ sizeLine → RDs J H ds vs → RD J H (.fz ds) (.ref a)
  | exc {a : Addr} {c : Str} : a ∉ J.l → a ∉ J.z → H a = some (ExD (.ref (He.ga K c)) none a) → RD J H (.exc c) (.ref a)
  | exf {a b : Addr} {c f : Str} {d : D} {v : V} : a ∉ J.l → a ∉ J.z → H a = some (ExD (.ref (He.ga K c)) (some b) a) → b ∉ J.l → b ∉ J.z → H b = some (.xd [(f, v)]) → RD J H d v → RD J H (.exf c f d) (.ref a)
inductive RDs (J : Jn) (H : Hp) : List D → List V → Prop
  | nil : RDs J H [] []
  | cons {d : D} {ds : List D} {v : V} {vs : List V} : RD J H d v → RDs J H ds vs → RDs J H (d :: ds) (v :: vs)
end
inductive RO (J : Jn) (H : Hp) : O → HO → Prop
  | lst {ds : List D} {vs : List V} : vs.length ≤ sizeLine → RDs K J H ds vs → RO J H (.lst ds) (.lst vs)
  | dct {kvs : List (Key × D)} {kws : List (Key × V)} : kws.length ≤ sizeLine → Paired (fun p q => p.1 = q.1 ∧ RD K J H p.2 q.2) kvs kws → RO J H (.dct kvs) (.dK kws)
structure RH (J : Jn) (h : Hh) (H : Hp) : Prop where
  nd : J.l.Nodup
  len : J.l.length = h.length
  obj : ∀ (i : Nat) (o : O), h[i]? = some o → ∃ a u, J.l[i]? = some a ∧ H a = some u ∧ RO K J H o u
  apart : ∀ a ∈ J.z, a ∉ J.l
  zed : ∀ a ∈ J.z, H a ≠ none
end
/-- what stood, stands, but for the mutable objects; the new ones were not there -/
structure Ext (J : Jn) (H : Hp) (J' : Jn) (H' : Hp) : Prop where
  z : J'.z = J.z
  pre : ∃ m, J'.l = J.l ++ m ∧ ∀ a ∈ m, H a = none
  keep : ∀ a o, a ∉ J.l → H a = some o → H' a = some o

section
variable {K : PySem.W.Frag} {J J' J2 : Jn} {H H' H2 : Hp} {h h' : Hh} {d : D} {v : V} {ds : List D} {vs : List V}
theorem RDs.length (r : RDs K J H ds vs) : ds.length = vs.length := by
  induction ds generalizing vs with
  | nil => cases r; rfl
  | cons d ds ih => cases r with | cons _ t => simp [ih t]
theorem RDs.get : ∀ {ds : List D} {vs : List V} {i : Nat} {d : D}, RDs K J H ds vs → ds[i]? = some d → ∃ v, vs[i]? = some v ∧ RD K J H d v
  | _, _, _, _, .nil, e => (by simp at e)
  | _, _, 0, _, .cons r _, e => (by simp at e; subst e; exact ⟨_, rfl, r⟩)
  | _, _, i + 1, _, .cons _ t, e => by
    obtain ⟨v, h1, h2⟩ := RDs.get (i := i) t (by simpa using e)
    exact ⟨v, by simpa using h1, h2⟩
theorem RDs.getV : ∀ {ds : List D} {vs : List V} {i : Nat} {v : V}, RDs K J H ds vs → vs[i]? = some v → ∃ d, ds[i]? = some d ∧ RD K J H d v
  | _, _, _, _, .nil, e => (by simp at e)
  | _, _, 0, _, .cons r _, e => (by simp at e; subst e; exact ⟨_, rfl, r⟩)
  | _, _, i + 1, _, .cons _ t, e => by
    obtain ⟨v, h1, h2⟩ := RDs.getV (i := i) t (by simpa using e)
    exact ⟨v, by simpa using h1, h2⟩
theorem RDs.append : ∀ {ds es : List D} {vs ws : List V}, RDs K J H ds vs → RDs K J H es ws → RDs K J H (ds ++ es) (vs ++ ws)
  | _, _, _, _, .nil, s => s
  | _, _, _, _, .cons r t, s => .cons r (RDs.append t s)
theorem RDs.take : ∀ {ds : List D} {vs : List V} (n : Nat), RDs K J H ds vs → RDs K J H (ds.take n) (vs.take n)
  | _, _, 0, _ => by simp; exact .nil
  | _, _, _ + 1, .nil => .nil
  | _, _, n + 1, .cons r t => .cons r (RDs.take n t)
theorem RDs.drop : ∀ {ds : List D} {vs : List V} (n : Nat), RDs K J H ds vs → RDs K J H (ds.drop n) (vs.drop n)
  | _, _, 0, r => r
  | _, _, _ + 1, .nil => .nil
  | _, _, n + 1, .cons _ t => RDs.drop n t
theorem RDs.set : ∀ {ds : List D} {vs : List V} (i : Nat) {d : D} {v : V}, RD K J H d v → RDs K J H ds vs → RDs K J H (ds.set i d) (vs.set i v)
  | _, _, _, _, _, _, .nil => .nil
  | _, _, 0, _, _, r, .cons _ t => .cons r t
  | _, _, i + 1, _, _, r, .cons q t => .cons q (RDs.set i r t)
theorem RDs.eraseIdx : ∀ {ds : List D} {vs : List V} (i : Nat), RDs K J H ds vs → RDs K J H (ds.eraseIdx i) (vs.eraseIdx i)
  | _, _, _, .nil => .nil
  | _, _, 0, .cons _ t => t
  | _, _, i + 1, .cons q t => .cons q (RDs.eraseIdx i t)
theorem RDs.dropLast (r : RDs K J H ds vs) : RDs K J H ds.dropLast vs.dropLast := by
  rw [List.dropLast_eq_take, List.dropLast_eq_take, r.length]
  exact r.take _
theorem RDs.replicate (r : RDs K J H ds vs) : ∀ n : Nat, RDs K J H (List.replicate n ds).flatten (List.replicate n vs).flatten
  | 0 => .nil
  | n + 1 => by
    (rw [List.replicate_succ, List.replicate_succ, List.flatten_cons, List.flatten_cons])
    exact r.append (RDs.replicate r n)

theorem Ext.refl : Ext J H J H := ⟨rfl, ⟨[], by simp, by simp⟩, fun _ _ _ e => e⟩
theorem Ext.notin (e : Ext J H J' H') {a : Addr} {o : HO} (n : a ∉ J.l) (q : H a = some o) : a ∉ J'.l := by
  obtain ⟨m, hm, f⟩ := e.pre
  rw [hm]
  intro hm
  rcases List.mem_append.mp hm with z | z
  · exact n z
  · rw [f a z] at q; cases q
theorem Ext.get (e : Ext J H J' H') {i : Nat} {a : Addr} (q : J.l[i]? = some a) : J'.l[i]? = some a := by
  obtain ⟨m, hm, _⟩ := e.pre
  have hl : i < J.l.length := (List.getElem?_eq_some_iff.mp q).1
  rw [hm, List.getElem?_append_left hl]; exact q
mutual
theorem RD.ext (e : Ext J H J' H') : ∀ {d : D} {v : V}, RD K J H d v → RD K J' H' d v
  | _, _, .non => .non
  | _, _, .bl b => .bl b
  | _, _, .int i => .int i
  | _, _, .str x => .str x
  | _, _, .tup n m q z r => .tup (e.notin n q) (by rw [e.z]; exact m) (e.keep _ _ n q) z (RDs.ext e r)
  | _, _, .ktup k z r => .ktup k z (RDs.ext e r)
  | _, _, .lst n m q z r => .lst (e.notin n q) (by rw [e.z]; exact m) (e.keep _ _ n q) z (RDs.ext e r)
  | _, _, .ref q => .ref (e.get q)
  | _, _, .fz n m q z r => .fz (e.notin n q) (by rw [e.z]; exact m) (e.keep _ _ n q) z (RDs.ext e r)
  | _, _, .kfz k z r => .kfz k z (RDs.ext e r)
  | _, _, .ft n m q c d z r => .ft (e.notin n q) (by rw [e.z]; exact m) (e.keep _ _ n q) c d z (RDs.ext e r)
  | _, _, .exc n m q => .exc (e.notin n q) (by rw [e.z]; exact m) (e.keep _ _ n q)
  | _, _, .exf n m q n2 m2 q2 r => .exf (e.notin n q) (by rw [e.z]; exact m) (e.keep _ _ n q) (e.notin n2 q2) (by rw [e.z]; exact m2) (e.keep _ _ n2 q2) (RD.ext e r)
theorem RDs.ext (e : Ext J H J' H') : ∀ {ds : List D} {vs : List V}, RDs K J H ds vs → RDs K J' H' ds vs
  | _, _, .nil => .nil
  | _, _, .cons r t => .cons (RD.ext e r) (RDs.ext e t)
end
theorem RO.ext (e : Ext J H J' H') {o : O} {u : HO} (r : RO K J H o u) : RO K J' H' o u := by
  cases r with
  | lst z r => exact .lst z (r.ext e)
  | dct z r => exact .dct z (Paired.mapP r fun p q x => ⟨x.1, x.2.ext e⟩)
/-- the same data under other sets of addresses -/
structure Sub (J : Jn) (H : Hp) (J' : Jn) (H' : Hp) : Prop where
  l : ∀ a o, a ∉ J.l → a ∉ J.z → H a = some o → a ∉ J'.l ∧ a ∉ J'.z ∧ H' a = some o
  get : ∀ (i : Nat) a, J.l[i]? = some a → J'.l[i]? = some a
mutual
theorem RD.sub (e : Sub J H J' H') : ∀ {d : D} {v : V}, RD K J H d v → RD K J' H' d v
  | _, _, .non => .non
  | _, _, .bl b => .bl b
  | _, _, .int i => .int i
  | _, _, .str x => .str x
  | _, _, .tup n m q z r => .tup (e.l _ _ n m q).1 (e.l _ _ n m q).2.1 (e.l _ _ n m q).2.2 z (RDs.sub e r)
  | _, _, .ktup k z r => .ktup k z (RDs.sub e r)
  | _, _, .lst n m q z r => .lst (e.l _ _ n m q).1 (e.l _ _ n m q).2.1 (e.l _ _ n m q).2.2 z (RDs.sub e r)
  | _, _, .ref q => .ref (e.get _ _ q)
  | _, _, .fz n m q z r => .fz (e.l _ _ n m q).1 (e.l _ _ n m q).2.1 (e.l _ _ n m q).2.2 z (RDs.sub e r)
  | _, _, .kfz k z r => .kfz k z (RDs.sub e r)
  | _, _, .ft n m q c d z r => .ft (e.l _ _ n m q).1 (e.l _ _ n m q).2.1 (e.l _ _ n m q).2.2 c d z (RDs.sub e r)
  | _, _, .exc n m q => .exc (e.l _ _ n m q).1 (e.l _ _ n m q).2.1 (e.l _ _ n m q).2.2
  | _, _, .exf n m q n2 m2 q2 r => .exf (e.l _ _ n m q).1 (e.l _ _ n m q).2.1 (e.l _ _ n m q).2.2 (e.l _ _ n2 m2 q2).1 (e.l _ _ n2 m2 q2).2.1 (e.l _ _ n2 m2 q2).2.2 (RD.sub e r)
theorem RDs.sub (e : Sub J H J' H') : ∀ {ds : List D} {vs : List V}, RDs K J H ds vs → RDs K J' H' ds vs
  | _, _, .nil => .nil
  | _, _, .cons r t => .cons (RD.sub e r) (RDs.sub e t)
end
theorem RO.sub (e : Sub J H J' H') {o : O} {u : HO} (r : RO K J H o u) : RO K J' H' o u := by
  cases r with
  | lst z r => exact .lst z (r.sub e)
  | dct z r => exact .dct z (Paired.mapP r fun p q x => ⟨x.1, x.2.sub e⟩)
theorem RH.at (r : RH K J h H) {i : Nat} {a : Addr} (q : J.l[i]? = some a) : ∃ o u, h[i]? = some o ∧ H a = some u ∧ RO K J H o u := by
  have hl : i < h.length := by rw [← r.len]; exact (List.getElem?_eq_some_iff.mp q).1
  obtain ⟨a', u, h1, h2, h3⟩ := r.obj i h[i] (List.getElem?_eq_getElem hl)
  rw [q] at h1; cases h1
  exact ⟨_, u, List.getElem?_eq_getElem hl, h2, h3⟩
theorem RH.inl (r : RH K J h H) {a : Addr} (hm : a ∈ J.l) : ∃ u, H a = some u := by
  obtain ⟨i, hi⟩ := List.mem_iff_getElem?.mp hm
  obtain ⟨o, u, _, h2, _⟩ := r.at hi
  exact ⟨u, h2⟩
theorem RH.notin (r : RH K J h H) {a : Addr} (q : H a = none) : a ∉ J.l := fun hm => by
  obtain ⟨u, h2⟩ := r.inl hm
  rw [q] at h2; cases h2
theorem RH.notz (r : RH K J h H) {a : Addr} (q : H a = none) : a ∉ J.z := fun hm => r.zed a hm q
theorem Ext.trans (r : RH K J h H) (r1 : RH K J' h' H') (e : Ext J H J' H') (e2 : Ext J' H' J2 H2) : Ext J H J2 H2 := by
  obtain ⟨m, hm, f⟩ := e.pre
  obtain ⟨m2, hm2, f2⟩ := e2.pre
  refine ⟨e2.z.trans e.z, ⟨m ++ m2, by rw [hm2, hm, List.append_assoc], fun a ha => ?_⟩, fun a o n q => e2.keep a o (e.notin n q) (e.keep a o n q)⟩
  rcases List.mem_append.mp ha with z | z
  · exact f a z
  · cases q : H a with
    | none => rfl
    | some u =>
      exfalso
      by_cases n : a ∈ J.l
      · obtain ⟨u', h2⟩ := r1.inl (a := a) (by rw [hm]; exact List.mem_append_left _ n)
        rw [f2 a z] at h2; cases h2
      · have := e.keep a u n q
        rw [f2 a z] at this; cases this
/-- a new thing that no object holds -/
theorem Ext.laid {p : Addr} {o : HO} (n : H p = none) : Ext J H J (upd H p o) :=
  ⟨rfl, ⟨[], by simp, by simp⟩, fun a u _ q => by rw [upd_ne (ne_of_none q n)]; exact q⟩
theorem RH.laid {p : Addr} {o : HO} (r : RH K J h H) (n : H p = none) : RH K J h (upd H p o) :=
  ⟨r.nd, r.len, fun i ob e => by
    obtain ⟨a, u, h1, h2, h3⟩ := r.obj i ob e
    exact ⟨a, u, h1, by rw [upd_ne (ne_of_none h2 n)]; exact h2, h3.ext (Ext.laid n)⟩, r.apart, fun a ha => by
    by_cases z : a = p
    · subst z; rw [upd_same]; simp
    · rw [upd_ne z]; exact r.zed a ha⟩
/-- a new thing, hidden -/
abbrev Jn.hide (J : Jn) (p : Addr) : Jn := ⟨J.l, p :: J.z⟩
abbrev Jn.own (J : Jn) (p : Addr) : Jn := ⟨J.l ++ [p], J.z⟩
theorem Sub.hide {p : Addr} (n : H p = none) : Sub J H (J.hide p) H :=
  ⟨fun a o x y q => ⟨x, fun hm => (List.mem_cons.mp hm).elim (fun z => by subst z; rw [n] at q; cases q) y, q⟩, fun _ _ q => q⟩
theorem RH.hide {p : Addr} {o : HO} (r : RH K J h H) (n : H p = none) : RH K (J.hide p) h (upd H p o) := by
  have r2 := r.laid (o := o) n
  refine ⟨r.nd, r.len, fun i ob e => ?_, fun a ha => ?_, fun a ha => ?_⟩
  · obtain ⟨a, u, h1, h2, h3⟩ := r.obj i ob e
    exact ⟨a, u, h1, by rw [upd_ne (ne_of_none h2 n)]; exact h2, (h3.sub (Sub.hide n)).ext (Ext.laid n)⟩
  · rcases List.mem_cons.mp ha with z | z
    · subst z; exact r.notin n
    · exact r.apart a z
  · rcases List.mem_cons.mp ha with z | z
    · subst z; rw [upd_same]; simp
    · exact r2.zed a z
/-- a hidden thing is shown -/
theorem Sub.show_ {p : Addr} : Sub (J.hide p) H J H := ⟨fun a o x y q => ⟨x, fun hm => y (List.mem_cons_of_mem _ hm), q⟩, fun _ _ q => q⟩
theorem RH.show_ {p : Addr} (r : RH K (J.hide p) h H) : RH K J h H :=
  ⟨r.nd, r.len, fun i ob e => let ⟨a, u, h1, h2, h3⟩ := r.obj i ob e; ⟨a, u, h1, h2, h3.sub Sub.show_⟩, fun a ha => r.apart a (List.mem_cons_of_mem _ ha), fun a ha => r.zed a (List.mem_cons_of_mem _ ha)⟩
/-- .. becomes an object -/
theorem Sub.own {p : Addr} : Sub (J.hide p) H (J.own p) H :=
  ⟨fun a o x y q => ⟨fun hm => (List.mem_append.mp hm).elim x fun z => y (by simp at z; subst z; exact List.mem_cons_self), fun hm => y (List.mem_cons_of_mem _ hm), q⟩,
   fun i a q => by show (J.l ++ [p])[i]? = _; rw [List.getElem?_append_left (List.getElem?_eq_some_iff.mp q).1]; exact q⟩
theorem RH.own {p : Addr} {o : O} {u : HO} (r : RH K (J.hide p) h H) (np : p ∉ J.z) (q : H p = some u) (ro : RO K (J.hide p) H o u) : RH K (J.own p) (h ++ [o]) H := by
  have n : p ∉ J.l := r.apart p List.mem_cons_self
  refine ⟨?_, by show (J.l ++ [p]).length = _; rw [List.length_append, List.length_append, r.len]; rfl, fun i ob e => ?_, fun a ha hm => ?_, fun a ha => r.zed a (List.mem_cons_of_mem _ ha)⟩
  · show (J.l ++ [p]).Nodup
    exact List.nodup_append.mpr ⟨r.nd, by simp, fun a ha b hb => by simp at hb; rw [hb]; rintro rfl; exact n ha⟩
  · have hll : J.l.length = h.length := r.len
    by_cases hi : i < h.length
    · rw [List.getElem?_append_left hi] at e
      obtain ⟨a, w, h1, h2, h3⟩ := r.obj i ob e
      have h1 : J.l[i]? = some a := h1
      exact ⟨a, w, by show (J.l ++ [p])[i]? = _; rw [List.getElem?_append_left (by omega)]; exact h1, h2, h3.sub Sub.own⟩
    · have hi2 : i = h.length := by
        have := (List.getElem?_eq_some_iff.mp e).1
        simp at this; omega
      subst hi2
      rw [List.getElem?_append_right (Nat.le_refl _)] at e
      simp at e; subst e
      exact ⟨p, u, by show (J.l ++ [p])[_]? = _; rw [← hll, List.getElem?_append_right (Nat.le_refl _)]; simp, q, ro.sub Sub.own⟩
  · rcases List.mem_append.mp hm with z | z
    · exact r.apart a (List.mem_cons_of_mem _ ha) z
    · simp at z; subst z; exact np ha
theorem Ext.own {p : Addr} (n : H p = none) (e : Ext J H J' H') : Ext J H (J'.own p) H' := by
  obtain ⟨m, hm, f⟩ := e.pre
  refine ⟨e.z, ⟨m ++ [p], by show J'.l ++ [p] = _; rw [hm, List.append_assoc], fun a ha => ?_⟩, e.keep⟩
  rcases List.mem_append.mp ha with z | z
  · exact f a z
  · simp at z; rw [z]; exact n
/-- a hidden thing is written -/
theorem Sub.writeZ {p : Addr} {u : HO} (hp : p ∈ J.z) : Sub J H J (upd H p u) :=
  ⟨fun a o x y q => ⟨x, y, by rw [upd_ne (show a ≠ p by rintro rfl; exact y hp)]; exact q⟩, fun _ _ q => q⟩
theorem RH.writeZ {p : Addr} {u : HO} (r : RH K J h H) (hp : p ∈ J.z) : RH K J h (upd H p u) :=
  ⟨r.nd, r.len, fun i ob e => by
    obtain ⟨a, w, h1, h2, h3⟩ := r.obj i ob e
    refine ⟨a, w, h1, ?_, h3.sub (Sub.writeZ hp)⟩
    rw [upd_ne]; exact h2
    rintro rfl; exact r.apart _ hp (List.mem_of_getElem? h1), r.apart, fun a ha => by
    by_cases z : a = p
    · subst z; rw [upd_same]; simp
    · rw [upd_ne z]; exact r.zed a ha⟩
/-- an object written -/
theorem Ext.write {i : Nat} {a : Addr} {u : HO} (q : J.l[i]? = some a) : Ext J H J (upd H a u) :=
  ⟨rfl, ⟨[], by simp, by simp⟩, fun b o n e => by rw [upd_ne]; exact e; rintro rfl; exact n (List.mem_of_getElem? q)⟩
theorem RH.write {i : Nat} {a : Addr} {o : O} {u : HO} (r : RH K J h H) (q : J.l[i]? = some a) (ro : RO K J (upd H a u) o u) : RH K J (h.set i o) (upd H a u) := by
  refine ⟨r.nd, by simp [r.len], fun j ob e => ?_, r.apart, fun b hb => ?_⟩
  · by_cases hj : i = j
    · subst hj
      have hl : i < h.length := by rw [← r.len]; exact (List.getElem?_eq_some_iff.mp q).1
      rw [List.getElem?_set_self hl] at e; cases e
      exact ⟨a, u, q, upd_same, ro⟩
    · rw [List.getElem?_set_ne hj] at e
      obtain ⟨b, w, h1, h2, h3⟩ := r.obj j ob e
      have nb : b ≠ a := by
        rintro rfl
        obtain ⟨l1, e1⟩ := List.getElem?_eq_some_iff.mp q
        obtain ⟨l2, e2⟩ := List.getElem?_eq_some_iff.mp h1
        exact hj ((List.getElem_inj r.nd).mp (e1.trans e2.symm))
      exact ⟨b, w, h1, by rw [upd_ne nb]; exact h2, h3.ext (Ext.write q)⟩
  · rw [upd_ne]; exact r.zed b hb
    rintro rfl; exact r.apart _ hb (List.mem_of_getElem? q)

/-! ### the names -/
structure RE (K : PySem.W.Frag) (J : Jn) (H : Hp) (ρ : Env) (σ : L2.St) : Prop where
  len : ρ.length = σ.length
  get : ∀ (i : Nat) (d : D), ρ[i]? = some (some d) → ∃ v, σ[i]? = some (some v) ∧ RD K J H d v
variable {ρ : Env} {σ : L2.St}
theorem RE.ext (r : RE K J H ρ σ) (e : Ext J H J' H') : RE K J' H' ρ σ := ⟨r.len, fun i d q => let ⟨v, a, b⟩ := r.get i d q; ⟨v, a, b.ext e⟩⟩
theorem RE.set (r : RE K J H ρ σ) (i : Nat) {d : D} {v : V} (x : RD K J H d v) : RE K J H (ρ.set i (some d)) (σ.set i (some v)) := by
  refine ⟨by simp [r.len], fun j e q => ?_⟩
  by_cases hj : i = j
  · subst hj
    have hl : i < ρ.length := by
      have := (List.getElem?_eq_some_iff.mp q).1
      simpa using this
    rw [List.getElem?_set_self hl] at q
    cases q
    exact ⟨v, by rw [List.getElem?_set_self (by rw [← r.len]; exact hl)], x⟩
  · rw [List.getElem?_set_ne hj] at q
    obtain ⟨w, a, b⟩ := r.get j e q
    exact ⟨w, by rw [List.getElem?_set_ne hj]; exact a, b⟩
theorem RE.drop (r : RE K J H ρ σ) (i : Nat) : RE K J H (ρ.set i none) (σ.set i none) := by
  refine ⟨by simp [r.len], fun j e q => ?_⟩
  by_cases hj : i = j
  · subst hj
    by_cases hl : i < ρ.length
    · rw [List.getElem?_set_self hl] at q; cases q
    · rw [List.getElem?_eq_none (by simpa using hl)] at q; cases q
  · rw [List.getElem?_set_ne hj] at q
    obtain ⟨w, a, b⟩ := r.get j e q
    exact ⟨w, by rw [List.getElem?_set_ne hj]; exact a, b⟩
theorem RE.lose (r : RE K J H ρ σ) (i : Nat) : RE K J H (ρ.set i none) σ := by
  refine ⟨by simp [r.len], fun j e q => ?_⟩
  by_cases hj : i = j
  · subst hj
    by_cases hl : i < ρ.length
    · rw [List.getElem?_set_self hl] at q; cases q
    · rw [List.getElem?_eq_none (by simpa using hl)] at q; cases q
  · rw [List.getElem?_set_ne hj] at q
    exact r.get j e q
end

/-! ### what is wanted behind a piece -/
abbrev RelA (α β : Type) := Jn → Hp → α → β → Prop
def Post (K : PySem.W.Frag) {α β : Type} (J : Jn) (H : Hp) (Rl : RelA α β) (r : R α) (Q : β → Hp → Prop) : Prop := match r with
  | .ok a h' => ∀ J' H' b, Ext J H J' H' → RH K J' h' H' → Rl J' H' a b → Q b H'
  | _ => False
/-- an exception, as it is told -/
def RXd (K : PySem.W.Frag) (J : Jn) (H : Hp) (x : Xc) (d : Option Addr) : Prop := match x.fld with
  | none => d = none
  | some p => ∃ b v, d = some b ∧ b ∉ J.l ∧ b ∉ J.z ∧ H b = some (.xd [(p.1, v)]) ∧ RD K J H p.2 v
def RX (K : PySem.W.Frag) (mg : Str → Option Value) (J : Jn) (H : Hp) (x : Xc) (cls : Value) (d : Option Addr) : Prop := (∃ C, cls = .ref C ∧ mg x.cls = some (.ref C)) ∧ RXd K J H x d
/-- behind a def, that may let one out -/
def PostX (K : PySem.W.Frag) (mg : Str → Option Value) (E : XK) {α β : Type} (J : Jn) (H : Hp) (Rl : RelA α β) (r : R α) (Q : β → Hp → Prop) : Prop := match r with
  | .ok a h' => ∀ J' H' b, Ext J H J' H' → RH K J' h' H' → Rl J' H' a b → Q b H'
  | .err x h' => ∀ J' H' cls d, Ext J H J' H' → RH K J' h' H' → RX K mg J' H' x cls d → E cls d H'
  | .bad => False
theorem Post.x {K : PySem.W.Frag} {mg : Str → Option Value} {E : XK} {α β : Type} {J : Jn} {H : Hp} {Rl : RelA α β} {r : R α} {Q : β → Hp → Prop} (p : Post K J H Rl r Q) : PostX K mg E J H Rl r Q := by
  cases r with
  | ok a h => exact p
  | err x h => exact False.elim p
  | bad => exact p
theorem PostX.ext {K : PySem.W.Frag} {mg : Str → Option Value} {E : XK} {α β : Type} {J J' : Jn} {H H' : Hp} {h h' : Hh} {Rl : RelA α β} {r : R α} {Q : β → Hp → Prop} (rh : RH K J h H) (rh' : RH K J' h' H') (e : Ext J H J' H') (p : PostX K mg E J H Rl r Q) : PostX K mg E J' H' Rl r Q := by
  cases r with
  | ok a h2 => exact fun J2 H2 b e2 rh2 rl => p J2 H2 b (e.trans rh rh' e2) rh2 rl
  | err x h2 => exact fun J2 H2 c d e2 rh2 rx => p J2 H2 c d (e.trans rh rh' e2) rh2 rx
  | bad => exact p
section
variable {K : PySem.W.Frag} {J J' : Jn} {H H' : Hp} {h h' : Hh} {ρ : Env} {σ : L2.St} {α β γ δ : Type}
theorem Post.mono {Rl : RelA α β} {r : R α} {Q Q' : β → Hp → Prop} (p : Post K J H Rl r Q) (f : ∀ b H', Q b H' → Q' b H') : Post K J H Rl r Q' := by
  cases r with
  | ok a h' => exact fun J' H' b e rh rl => f _ _ (p J' H' b e rh rl)
  | bad => exact p
  | err _ _ => exact p
theorem Post.ext {Rl : RelA α β} {r : R α} {Q : β → Hp → Prop} (rh : RH K J h H) (rh' : RH K J' h' H') (e : Ext J H J' H') (p : Post K J H Rl r Q) : Post K J' H' Rl r Q := by
  cases r with
  | ok a h2 => exact fun J2 H2 b e2 rh2 rl => p J2 H2 b (e.trans rh rh' e2) rh2 rl
  | bad => exact p
  | err _ _ => exact p
/-- a reading by an evaluator's function -/
def tG (K : PySem.W.Frag) (Rl : RelA α β) (f : Env → Hh → R α) : L2.St → Hp → (β → Hp → Prop) → Prop := fun σ H Q => ∃ ρ h J, RE K J H ρ σ ∧ RH K J h H ∧ Post K J H Rl (f ρ h) Q
abbrev rD (K : PySem.W.Frag) : RelA D V := RD K
abbrev rDs (K : PySem.W.Frag) : RelA (List D) (List V) := RDs K
abbrev rB : RelA Bool Bool := fun _ _ a b => a = b
/-- step by step -/
theorem Post.step {R1 : RelA α β} {R2 : RelA γ δ} {f : Env → Hh → R α} {g : α → Hh → R γ} {Q : δ → Hp → Prop} (re : RE K J H ρ σ) (rh : RH K J h H) (p : Post K J H R2 ((f ρ h).bind g) Q) :
    tG K R1 f σ H (fun b H1 => ∃ J1 h1 a, Ext J H J1 H1 ∧ RE K J1 H1 ρ σ ∧ RH K J1 h1 H1 ∧ R1 J1 H1 a b ∧ Post K J1 H1 R2 (g a h1) Q) := by
  refine ⟨ρ, h, J, re, rh, ?_⟩
  cases q : f ρ h with
  | ok a h1 =>
    rw [q] at p
    exact fun J1 H1 b e rh1 rl => ⟨J1, h1, a, e, re.ext e, rh1, rl, Post.ext rh rh1 e p⟩
  | bad => rw [q] at p; exact p
  | err _ _ => rw [q] at p; exact p
theorem Post.opt {Rl : RelA α β} {o : Option α} {Q : β → Hp → Prop} (rh : RH K J h H) (p : Post K J H Rl (R.opt o h) Q) : ∃ a, o = some a ∧ ∀ b, Rl J H a b → Q b H := by
  cases o with
  | none => exact False.elim p
  | some a => exact ⟨a, rfl, fun b rl => p J H b Ext.refl rh rl⟩
/-- .. with a further thing laid -/
theorem Post.optX {Rl : RelA α β} {o : Option α} {Q : β → Hp → Prop} (p : Post K J H Rl (R.opt o h) Q) : ∃ a, o = some a ∧ ∀ J' H' b, Ext J H J' H' → RH K J' h H' → Rl J' H' a b → Q b H' := by
  cases o with
  | none => exact False.elim p
  | some a => exact ⟨a, rfl, p⟩
theorem tG.mono {Rl : RelA α β} {f : Env → Hh → R α} {Q Q' : β → Hp → Prop} (p : tG K Rl f σ H Q) (m : ∀ b H', Q b H' → Q' b H') : tG K Rl f σ H Q' :=
  let ⟨ρ, h, J, re, rh, q⟩ := p; ⟨ρ, h, J, re, rh, q.mono m⟩
end
theorem _root_.L2.PE.imp {X : Cx} {e : Expr} {t t' : TE} (h : PE X e t) (i : ∀ σ H Q, t' σ H Q → t σ H Q) : PE X e t' := ⟨fun p s σ H Q I q => h.run p s σ H Q I (i σ H Q q)⟩
theorem _root_.L2.PT.imp {X : Cx} {e : Expr} {t t' : TT} (h : PT X e t) (i : ∀ σ H Q, t' σ H Q → t σ H Q) : PT X e t' := ⟨fun p s σ H Q I q => h.run p s σ H Q I (i σ H Q q)⟩
theorem _root_.L2.PW.imp {X : Cx} {e : Expr} {t t' : TT} (h : PW X e t) (i : ∀ σ H Q, t' σ H Q → t σ H Q) : PW X e t' := ⟨fun w p s σ H Q I q => h.run w p s σ H Q I (i σ H Q q)⟩
theorem _root_.L2.PA.imp {X : Cx} {es : List Expr} {t t' : TA} (h : PA X es t) (i : ∀ σ H Q, t' σ H Q → t σ H Q) : PA X es t' := ⟨fun w p s σ H Q I q => h.run w p s σ H Q I (i σ H Q q)⟩
theorem _root_.L2.PI.imp {X : Cx} {tg e : Expr} {t t' : TI} (h : PI X tg e t) (i : ∀ σ H Q, t' σ H Q → t σ H Q) : PI X tg e t' := ⟨fun p s σ H Q I q => h.run p s σ H Q I (i σ H Q q)⟩
theorem _root_.L2.PG.imp {X : Cx} {e : Expr} {t t' : TG} (h : PG X e t) (i : ∀ v σ H Q, t' v σ H Q → t v σ H Q) : PG X e t' := ⟨fun p s σ H v u Q I r q => h.run p s σ H v u Q I r (i v σ H Q q)⟩
theorem _root_.L2.PS.imp {X : Cx} {e : Stmt} {t t' : TS} (h : PS X e t) (i : ∀ D σ H, t' D σ H → t D σ H) : PS X e t' := ⟨fun p s σ H D I q => h.run p s σ H D I (i D σ H q)⟩
theorem _root_.L2.PSs.imp {X : Cx} {e : List Stmt} {t t' : TS} (h : PSs X e t) (i : ∀ D σ H, t' D σ H → t D σ H) : PSs X e t' := ⟨fun p s σ H D I q => h.run p s σ H D I (i D σ H q)⟩
end PV
end

section
set_option maxRecDepth 100000
set_option maxHeartbeats 2000001
/-! PvGk: such a class called by name: C(f=v). -/
namespace PySem
namespace GAK
section
variable {w : World} {prog : Program} {A : Around} {E : Value → Shared → Prop} {R : Result → Shared → Prop} {h : Heap} {g : Array GenState} {d : Drawn} {t : Nat} {os : OsState}
variable {nm q : Str} {C N : Addr} {bs bm bmB : List Value} {hdct : Bool} {sn : List Str} {sub : List Value} {ab : Bool} {col : Option Bool} {dd : Option Addr} {k0 k1 k2 k3 k5 : Option Value} {B newId initId : String} {kws : List (Str × Value)}
theorem new_checkK {M : Model} (F : ExcBaseFacts B newId initId bmB) (hT : ∀ X : String, bm.contains (.type X) = bmB.contains (.type X)) {Q : Unit → Shared → Prop} (hC : h.get? C = some (excClassObj nm q C N bs bm hdct sn sub ab col dd k0 k1 k2 k3 k5 newId)) (hq : Q () ⟨h, g, d, t, os⟩) : wpAny M A (checkBuiltinCall newId ⟨[.ref C], kws⟩) Q E ⟨h, g, d, t, os⟩ := by
  have has : (Value.ref C :: bm).contains (.type B) = true := by rw [List.contains_cons, hT, F.hasB, Bool.or_true]
  have star := F.noStar
  (simp only [checkBuiltinCall, F.newKind, F.newSplit, F.newRow])
  (repeat (first | refine wpAny_loadPart_at hC ?_ | (refine wpAny_isSubtype_exc hC ?_; rw [has]) | refine wpAny_staticBase_exc hC ?_ | refine wpAny_madeBy_exc hC ?_ | simp only [bne_self_eq_false, Bool.false_eq_true, if_false] | wp_step))
  exact hq
theorem new_kw (F : ExcBaseFacts B newId initId bmB) (hT : ∀ X : String, bm.contains (.type X) = bmB.contains (.type X)) (hC : h.get? C = some (excClassObj nm q C N bs bm hdct sn sub ab col dd k0 k1 k2 k3 k5 newId))
    (hq : R (.ok (.ret (.ref (h.objs.size + 1)))) ⟨(h.push (W.kdv_tup [])).push (HandSPX.excO C h.objs.size), g, d, t, os⟩) :
    codeAny (model prog w) A (.builtin newId ⟨[.ref C], kws⟩) R ⟨h, g, d, t, os⟩ := by
  have ends := F.ends
  have has : (Value.ref C :: bm).contains (.type B) = true := by rw [List.contains_cons, hT, F.hasB, Bool.or_true]
  have noA : (Value.ref C :: bm).contains (.type "AttributeError") = false := by rw [List.contains_cons, hT, F.noAttr]; rfl
  have noN : (Value.ref C :: bm).contains (.type "NameError") = false := by rw [List.contains_cons, hT, F.noName]; rfl
  (refine codeAny_builtinAt F.entry ?_)
  (unfold Builtin.«BaseException.__new__»)
  refine wpAt_bind ?_
  (show wpAt _ _ _ (stack >>= _) _ _ _)
  (refine wpAt_bind (wpAt_stack fun p below => wpAt_of_wpAny ?_))
  wp_walk
  refine wpAt_of_wpAny ?_
  rw [F.owner]
  (repeat (first | with_reducible refine wpAny_madeHere_exc F.canon hC ?_ | with_reducible refine wpAny_loadPart_at hC ?_ | (with_reducible refine wpAny_isSubtype_exc hC ?_; first | rw [has] | rw [noA] | rw [noN]) | wp_step))
  show R _ _
  rw [Heap.size_push]
  exact hq
theorem type_kw (F : ExcBaseFacts B newId initId bmB) (hT : ∀ X : String, bm.contains (.type X) = bmB.contains (.type X)) {fI : Addr} {Q : Fin → Shared → Prop} (hC : h.get? C = some (excClassObj nm q C N bs bm hdct sn sub ab col dd k0 k1 k2 k3 k5 newId))
    (hi : W.Looks (model prog w) h (typeLookup (.ref C) "__init__") (some (.ref fI))) (hb : ∀ self, W.Looks (model prog w) h (bindSpecial (.ref fI) self) (.ref fI, [self]))
    (hq : codeAny (model prog w) A (.call (.ref fI) ⟨[.ref (h.objs.size + 1)], kws⟩) (fun r s' => match r with | .ok (.ret v) => v = .none ∧ Q (.done (.ret (.ref (h.objs.size + 1)))) s' | .ok _ => False | .error e => E e s')
      ⟨(h.push (W.kdv_tup [])).push (HandSPX.excO C h.objs.size), g, d, t, os⟩) :
    wpAny (model prog w) A (Builtin.«type.__call__» ⟨[.ref C], kws⟩) Q E ⟨h, g, d, t, os⟩ := by
  (repeat (first | with_reducible refine wpAny_loadPart_at hC ?_ | with_reducible refine wpAny_madeBy_exc hC ?_ | wp_step))
  refine codeAny_call_builtin_code (Code.quiet_builtin _ F.quiet) (new_checkK F hT hC ?_)
  refine new_kw F hT hC ?_
  show wpAny _ _ _ _ _ _
  have k : ∀ b o, h.get? b = some o → ((h.push (W.kdv_tup [])).push (HandSPX.excO C h.objs.size)).get? b = some o := fun b o e => Heap.get?_push_of_some _ (Heap.get?_push_of_some _ e)
  have up := k _ _ hC
  have own : ((h.push (W.kdv_tup [])).push (HandSPX.excO C h.objs.size)).get? (h.objs.size + 1) = some (HandSPX.excO C h.objs.size) := by heap_get
  have self : (Value.ref C :: bm).contains (.ref C) = true := by simp
  have i1 := hi.keeps k
  (have b1 := (hb (.ref (h.objs.size + 1))).keeps k)
  unfold isInstance
  (repeat (first | with_reducible refine wpAny_loadPart_at own ?_ | (with_reducible refine wpAny_isSubtype_exc up ?_; rw [self]) | wp_step))
  (show wpAny _ _ (typeLookup (.ref C) _) _ _ _)
  refine i1.at ?_
  (refine wpAny_holding (wpAny_bind (b1.at ?_)))
  (refine wpAny_bind (wpAny_call (codeAny_mono hq fun r s' z => ?_)))
  (rcases r with e | (v | _ | _ | _) <;> first | exact z | exact z.elim | skip)
  obtain ⟨rfl, z⟩ := z
  first
    | (exact (wpAny_pure (wpAny_pure z)))
    | (wp_walk; exact z)
theorem check_type_kw {M : Model} {Q : Unit → Shared → Prop} (hC : h.get? C = some (excClassObj nm q C N bs bm hdct sn sub ab col dd k0 k1 k2 k3 k5 newId)) (hq : Q () ⟨h, g, d, t, os⟩) :
    wpAny M A (checkBuiltinCall "type.__call__" ⟨[.ref C], kws⟩) Q E ⟨h, g, d, t, os⟩ := by
  have f3 := tc_sub
  (have hT : (⟨h, g, d, t, os⟩ : Shared).TypeIs (.ref C) "type" := ⟨_, hC, rfl⟩)
  (simp only [checkBuiltinCall, tc_kind, tc_split])
  (repeat (any_goals (first | assumption | with_reducible refine wpAny_loadPart_at hC ?_ | with_reducible refine wpAny_onRaise ?_ | with_reducible refine wpAny_map ?_ | wp_step)))
theorem call_kw (F : ExcBaseFacts B newId initId bmB) (hT : ∀ X : String, bm.contains (.type X) = bmB.contains (.type X)) {fI : Addr} (hC : h.get? C = some (excClassObj nm q C N bs bm hdct sn sub ab col dd k0 k1 k2 k3 k5 newId))
    (hi : W.Looks (model prog w) h (typeLookup (.ref C) "__init__") (some (.ref fI))) (hb : ∀ self, W.Looks (model prog w) h (bindSpecial (.ref fI) self) (.ref fI, [self]))
    (hq : codeAny (model prog w) (A.under (.builtin "type.__call__" ⟨[.ref C], kws⟩)) (.call (.ref fI) ⟨[.ref (h.objs.size + 1)], kws⟩) (W.InitBack (h.objs.size + 1) R)
      ⟨(h.push (W.kdv_tup [])).push (HandSPX.excO C h.objs.size), g, d, t, os⟩) :
    codeAny (model prog w) A (.call (.ref C) ⟨[], kws⟩) R ⟨h, g, d, t, os⟩ := by
  have f1 := tc_lookup
  have f2 := tc_bind (.ref C)
  (have hTy : (⟨h, g, d, t, os⟩ : Shared).TypeIs (.ref C) "type" := ⟨_, hC, rfl⟩)
  refine codeAny_of_tree ?_
  (show wpAny _ _ (callAny (.ref C) _) _ _ _)
  (repeat (any_goals (first | assumption | with_reducible refine wpAny_loadPart_at hC ?_ | wp_step)))
  refine ⟨rfl, ?_⟩
  refine codeAny_call_builtin_at (Code.quiet_builtin _ (by decide +kernel)) entry_typeCall (check_type_kw hC (type_kw F hT hC hi hb ?_))
  (refine codeAny_mono hq fun r s' z => ?_)
  (rcases r with e | (v | _ | _ | _) <;> exact z)
end
end GAK
end PySem
end

section
set_option maxRecDepth 100000
set_option maxHeartbeats 2000001
/-! PvGa: an own exception class whose __init__(self, f) says super().__init__("text") and self.f = f: its call as a whole. -/
namespace GA
open PySem PySem.Spec PySem.W PySem.Calls PyProof.Rows

/-- the text of such an __init__ -/
abbrev gBody (text f : Str) (k : Nat) (p0 p1 p2 p3 p4 p5 p6 p7 p8 p9 : Pos) : List Stmt :=
  [.Expr (.Call (.Attribute (.Call (.Name "super" p0) [] [] p1) "__init__" p2) [.Constant (.str text) k p3] [] p4) p5, .Assign [.Attribute (.Name "self" p6) f p7] (.Name f p8) p9]

section
variable {w : World} {prog : Program} {A : Around} {E : Value → Shared → Prop} {h : Heap} {g : Array GenState} {d : Drawn} {t : Nat} {os : OsState}
variable {q nm : Str} {C N : Addr} {bm bs : List Value} {hdct : Bool} {sn : List Str} {sub : List Value} {ab : Bool} {col : Option Bool} {dd : Option Addr} {k0 k1 k2 k3 k5 : Option Value}
/-- ValueError.__init__, bound to e, called -/
theorem call_mw {u e t0 : Addr} {rest : List Value} {Q : Value → Shared → Prop} (hC : h.get? C = some (excClassObj nm q C N bs bm hdct sn sub ab col dd k0 k1 k2 k3 k5 "ValueError.__new__")) (he : h.get? e = some (PySem.HandSPX.excO C t0))
    (hu : h.get? u = some (kxs_mw "ValueError.__init__" e)) (hz : rest.length ≤ sizeLine) (hq : ∀ h', (∀ b o, b ≠ e → h.get? b = some o → h'.get? b = some o) → h'.get? e = some (PySem.HandSPX.excO C h.objs.size) → Q .none ⟨h', g, d, t, os⟩) :
    (wpAny (model prog w) A (call (.ref u) rest) Q E ⟨h, g, d, t, os⟩) := by
  (refine wpAny_call (codeAny_of_tree ?_))
  (show wpAny _ A.in1 (callAny (.ref u) ⟨rest, []⟩) _ _ _)
  simp only [callAny]
  (refine wpAny_bind (wpAny_load hu ?_))
  (simp only [show (Value.type "method-wrapper" == Value.type "method" || Value.type "method-wrapper" == Value.type "builtin_function_or_method" || Value.type "method-wrapper" == Value.type "method-wrapper") = true by decide, if_true])
  (refine KFB.if_so (by decide) ?_)
  refine wpAny_bind (check_bound_init F.excBase_ValueError.toExcCallFacts hC he rfl ?_)
  (refine wpAny_bind (wpAny_pure (wpAny_pure ?_)))
  refine ⟨plainId_quiet F.excBase_ValueError.init.plain _, codeAny_builtin F.excBase_ValueError.initEntry ?_⟩
  exact exc_init_tree (cls := .ref C) (t0 := t0) (dv := none) (c2 := .none) (c3 := .none) (b4 := .bool false) he hz fun h' kp e' _ => hq h' kp e'
end
section
variable {w : World} {prog : Program} {A : Around} {R : Result → Shared → Prop} {K : Frag} {mg mb : Str → Option Value}
variable {C e t0 fI cda cc : Addr} {name qual text f : Str} {k : Nat} {params : Arguments} {scope : Scope} {dV kV doc pm ct ccl cl : Value} {an od cdd cld : Option Addr} {osl ccs csl : Array (Option Value)} {p0 p1 p2 p3 p4 p5 p6 p7 p8 p9 : Pos} {ar : Arg} {vs : Array Value} {file : Str} {tf : Tok} {v : Value} {s : Shared} {pl : Env → Sem Bool} {args : Args}

theorem init_run (kx : K.In s.heap) (room : A.depth < recursionLimit) (T : L2.OexC K C) (hg : s.heap.Ns mainGlobals mg) (hb : s.heap.Ns builtinsNs mb) (hms : mg "super" = none) (hbs : mb "super" = some (.type "super")) (hlim : s.heap.NoLimit)
    (hf : K.lookup fI = some ⟨.type "function", od, .func (ksFn name qual params (gBody text f k p0 p1 p2 p3 p4 p5 p6 p7 p8 p9) scope dV kV doc pm an (.ref cda) ct cc), osl⟩) (hcd : codeIn K (.ref cda) qual = true)
    (hcode : K.lookup cda = some ⟨ccl, cdd, .fields vs, ccs⟩) (hvs : vs[2]? = some (.str file tf)) (hfile : ((prog.main.file : Str) == file) = true) (htop : (prog.main.scope.names.lookup ("super" : Str)).isSome = false)
    (hcell : K.lookup cc = some ⟨cl, cld, .cell (some (.ref C)), csl⟩) (hp : (params.posonlyargs ++ params.args).head? = some ar) (har : ar.arg = "self")
    (hbind : BindsTo s (ksFn name qual params (gBody text f k p0 p1 p2 p3 p4 p5 p6 p7 p8 p9) scope dV kV doc pm an (.ref cda) ct cc) args [("self", .ref e), (f, v)])
    (hks : scope.names.lookup ("super" : Str) = some .globalImplicit) (hkc : scope.names.lookup ("__class__" : Str) = some .free) (hls : scope.names.lookup ("self" : Str) = some .local) (hlf : scope.names.lookup f = some .local)
    (hcells : ∀ x ∈ scope.names, x.2 ≠ .cell) (hco : scope.isCoroutine = false) (hgen : scope.isGenerator = false) (hk : scope.kind = .function) (hfs : f ≠ "self") (hfd : (f == ("__debug__" : Str)) = false)
    (hsup : ks_superIn K C C "__init__" = some (some (.builtin "ValueError.__init__"))) (hsub : subIn K (.ref C) (.type "ValueError") = some true) (hany : nsIn K cStatics "thirdparty.any" = some none)
    (hev : ∀ env : Env, eval (.Call (.Attribute (.Call (.Name "super" p0) [] [] p1) "__init__" p2) [.Constant (.str text) k p3] [] p4) env = (do
      let ov ← attributeBase (.Call (.Name "super" p0) [] [] p1) "__init__" env (eval (.Call (.Name "super" p0) [] [] p1) env)
      standAt p2.atName
      let (f, first) ← holding [ov] (getMethod ov "__init__" (pl env))
      callWith p4 f first (backTo p4 (starEach [.Constant (.str text) k p3] env)) []))
    (hno : findIn K (.ref C) f = some none) (he : s.heap.get? e = some (PySem.HandSPX.excO C t0)) (hKe : K.lookup e = none)
    (hq : ∀ h' tk' dx t1, (∀ b o, b ≠ e → s.heap.get? b = some o → h'.get? b = some o) → s.heap.objs.size ≤ dx → h'.get? e = some { cls := .ref C, dict := some dx, data := .fields #[.ref t1, .none, .none, .none, .bool false, .none] } →
      h'.Ns1 dx (fun y => if y = f then some v else none) → R (.ok (.ret .none)) { s with heap := h', toks := tk' }) :
    codeAny (model prog w) A (.call (.ref fI) args) R s := by
  (obtain ⟨nm, q, N, bs, bm, sn, sub, ab, col, dd, k0, k1, k2, k3, k5, hC, hbm⟩ := T.cls)
  (have hcl : clsIn K C = some { name := nm, bases := bs, mro := .ref C :: bm, ns := N, qualname := q, hasDict := true, slotNames := sn, subclasses := sub, abstract := ab, collection := col, hasDel := false } := by unfold clsIn; rw [hC] <;> rfl)
  refine ks_codeAny_call_defAt (fd := ksFn name qual params (gBody text f k p0 p1 p2 p3 p4 p5 p6 p7 p8 p9) scope dV kV doc pm an (.ref cda) ct cc) (body := gBody text f k p0 p1 p2 p3 p4 p5 p6 p7 p8 p9) (binds := [("self", .ref e), (f, v)])
    room (kx _ _ hf) rfl hlim (codeRec_of kx hcd) rfl hbind hcells (fun x hx => ?_) (fun h₁ hns kp => ?_) hco hgen hk
  · rcases List.mem_cons.mp hx with rfl | hx
    · exact hls
    · rcases List.mem_cons.mp hx with rfl | hx
      · exact hlf
      · cases hx
  obtain ⟨hh, g, d, t, os⟩ := s
  have k1' : ∀ b o, hh.get? b = some o → h₁.get? b = some o := kp
  have X1 : K.In h₁ := kx.keeps k1'
  have he1 := k1' _ _ he
  have I1 : InstAt h₁ e (PySem.HandSPX.excO C t0) C none := ⟨he1, rfl, rfl, trivial⟩
  have hi : interactive (ksEnv qual scope hh.objs.size fI (.ref cda) cc) = false := by unfold interactive; rw [hk]; rfl
  refine ks_wpAt_execs_cons (ks_wpAt_Expr_any (ks_wpAt_MethodCall ?_ (hev _)) (hi := hi))
  have Mg : h₁.Ns mainGlobals mg := hg.keeps k1'
  have Mb : h₁.Ns builtinsNs mb := hb.keeps k1'
  have mroC : mroIn K C (.ref C) = some true := by
    unfold mroIn
    rw [hcl, Option.bind_some, if_neg (show ¬ (List.isEmpty (Value.ref C :: bm) = true) from Bool.false_ne_true)]
    simp
  have sf : (("self" : Str) == f) = false := by
    have : ("self" : Str) ≠ f := fun z => hfs z.symm
    simpa using this
  refine ks_wpAt_super_base (ar := ar) hks hkc (by decide) rfl (X1 _ _ hf) rfl hp rfl (X1 _ _ hcode) rfl hvs hfile htop ?_
  refine ks_loadName_global hk hks (loadGlobal_builtin Mg hms Mb hbs ⟨rfl, ?_⟩)
  refine wpAny_loadName_free hk hkc rfl ⟨_, X1 _ _ hcell, rfl⟩ ?_
  rw [har]
  refine wpAny_loadName_local hk hls hns (v := .ref e) ?_ ?_
  · show List.lookup ("self" : Str) [(f, v), ("self", Value.ref e)] = _
    rw [List.lookup, sf]
    rfl
  refine ks_wpAny_isType_cls (X1 _ _ hC) rfl ⟨rfl, ?_⟩
  refine ks_wpAny_call_super (X1 _ _ hC) rfl I1.at_ I1.cls (fun c e => by cases e) (looks_mroIn X1 mroC) (fun h2 hso kp2 => ?_)
  have X2 : K.In h2 := X1.keeps kp2
  have I2 : InstAt h2 e (PySem.HandSPX.excO C t0) C none := ⟨kp2 _ _ he1, rfl, rfl, trivial⟩
  have hsup2 := hsup
  unfold ks_superIn at hsup2
  rw [hcl] at hsup2
  refine kxs_getMethod kxs_ValueError hso (looks_opaque X2 hany) (l₀ := .ref C :: bm) (fun A Q E s k q => wpAny_bind ((looks_clsIn X2 hcl) A _ E s k (wpAny_pure q))) rfl X2 hsup2 (I2.type.andThen (looks_subIn X2 hsub)) (ks_ne X2 I2 hcl) (by decide) ?_
  refine kxs_callWith (i := "ValueError.__init__") (x := e) rfl (evalArgs_plain ?_)
  show wpAny _ _ (spliced ((false, eval (.Constant (.str text) k p3) (ksEnv qual scope hh.objs.size fI (.ref cda) cc)) :: backTo p4 (starEach [] (ksEnv qual scope hh.objs.size fI (.ref cda) cc)))) _ _ _
  refine spliced_cons (Constant_str (spliced_nil ⟨Heap.get?_push_size _ rfl, ?_⟩))
  have k3' : ∀ b o, h₁.get? b = some o → (h2.push (kxs_mw "ValueError.__init__" e)).get? b = some o := fun b o z => Heap.get?_push_of_some _ (kp2 b o z)
  refine call_mw (k3' _ _ (X1 _ _ hC)) (k3' _ _ he1) (Heap.get?_push_size _ rfl) (by show 1 ≤ sizeLine; rw [sizeLine_eq]; omega) (fun h4 kp4 he4 => ?_)
  have k4' : ∀ b o, b ≠ e → hh.get? b = some o → h4.get? b = some o := fun b o n z => kp4 b o n (k3' b o (k1' b o z))
  have eL : hh.objs.size ≠ e := Nat.ne_of_gt (Heap.lt_size he)
  have eC : ∀ b o, K.lookup b = some o → b ≠ e := fun b o z y => by
    rw [y, hKe] at z
    cases z
  have X4 : K.In h4 := fun b o z => k4' b o (eC b o z) (kx b o z)
  have hns4 : h4.Ns hh.objs.size (fun y => ([("self", Value.ref e), (f, v)] : List (Str × Value)).reverse.lookup y) := by
    obtain ⟨o, es, ep, q1, q2⟩ := hns
    exact ⟨o, es, ep, kp4 _ _ eL (k3' _ _ q1), q2⟩
  refine ks_wpAt_execs_cons (ks_wpAt_Assign_Attr ?_)
  refine wpAt_of_wpAny ?_
  refine wpAny_Name (wpAny_loadName_local (env := ksEnv qual scope hh.objs.size fI (.ref cda) cc) (m := fun y => ([("self", Value.ref e), (f, v)] : List (Str × Value)).reverse.lookup y) (v := v) hk hlf ?_ ?_ ?_) hfd
  · exact hns4
  · show List.lookup f [(f, v), ("self", Value.ref e)] = _
    simp [List.lookup]
  refine wpAny_Name (wpAny_loadName_local (env := ksEnv qual scope hh.objs.size fI (.ref cda) cc) (m := fun y => ([("self", Value.ref e), (f, v)] : List (Str × Value)).reverse.lookup y) (v := .ref e) hk hls ?_ ?_ ?_) (by decide)
  · exact hns4
  · show List.lookup ("self" : Str) [(f, v), ("self", Value.ref e)] = _
    rw [List.lookup, sf]
    rfl
  refine set_plain X4 (ox := PySem.HandSPX.excO C _) (od := none) ⟨he4, rfl, rfl, trivial⟩ T.sa ?_
  refine PySem.HandSPX.exc_osa X4 he4 hcl (show PySem.HandSPX.refsVE (.ref C :: bm) = true from hbm) rfl hno (fun h' tk' dx kd dn dne hx hn => ?_)
  refine wpAt_of_wpAny (wpAny_pure ?_)
  refine hq h' tk' dx _ (fun b o n z => kd b o n (k4' b o n z)) ?_ hx hn
  obtain ⟨o, es, ep, q1, _⟩ := hns4
  exact Nat.le_trans (Nat.le_of_lt (Heap.lt_size q1)) dn
end
/-- what the written part says of such a class -/
structure Gate (prog : Program) (K : Frag) (C : Addr) (f : Str) : Prop where
  T : L2.OexC K C
  rest : ∃ (fI cda cc : Addr) (name qual text : Str) (k : Nat) (params : Arguments) (scope : Scope) (dV kV doc pm ct ccl cl : Value) (an od cdd cld : Option Addr) (osl ccs csl : Array (Option Value)) (p0 p1 p2 p3 p4 p5 p6 p7 p8 p9 : Pos) (ar : Arg) (vs : Array Value) (file : Str) (tf : Tok) (pl : Env → Sem Bool),
    findIn K (.ref C) "__init__" = some (some (.ref fI)) ∧ typeIn K (.ref fI) = some (.type "function") ∧
    K.lookup fI = some ⟨.type "function", od, .func (ksFn name qual params (gBody text f k p0 p1 p2 p3 p4 p5 p6 p7 p8 p9) scope dV kV doc pm an (.ref cda) ct cc), osl⟩ ∧ codeIn K (.ref cda) qual = true ∧
    K.lookup cda = some ⟨ccl, cdd, .fields vs, ccs⟩ ∧ vs[2]? = some (.str file tf) ∧ ((prog.main.file : Str) == file) = true ∧ (prog.main.scope.names.lookup ("super" : Str)).isSome = false ∧
    K.lookup cc = some ⟨cl, cld, .cell (some (.ref C)), csl⟩ ∧ (params.posonlyargs ++ params.args).head? = some ar ∧ ar.arg = "self" ∧
    (∀ (s : Shared) (u v : Value), BindsTo s (ksFn name qual params (gBody text f k p0 p1 p2 p3 p4 p5 p6 p7 p8 p9) scope dV kV doc pm an (.ref cda) ct cc) ⟨[u, v], []⟩ [("self", u), (f, v)] ∧ BindsTo s (ksFn name qual params (gBody text f k p0 p1 p2 p3 p4 p5 p6 p7 p8 p9) scope dV kV doc pm an (.ref cda) ct cc) ⟨[u], [(f, v)]⟩ [("self", u), (f, v)]) ∧
    scope.names.lookup ("super" : Str) = some .globalImplicit ∧ scope.names.lookup ("__class__" : Str) = some .free ∧ scope.names.lookup ("self" : Str) = some .local ∧ scope.names.lookup f = some .local ∧
    (∀ x ∈ scope.names, x.2 ≠ .cell) ∧ scope.isCoroutine = false ∧ scope.isGenerator = false ∧ scope.kind = .function ∧ f ≠ "self" ∧ (f == ("__debug__" : Str)) = false ∧
    ks_superIn K C C "__init__" = some (some (.builtin "ValueError.__init__")) ∧ subIn K (.ref C) (.type "ValueError") = some true ∧ nsIn K cStatics "thirdparty.any" = some none ∧
    findIn K (.ref C) f = some none ∧
    ∀ env : Env, eval (.Call (.Attribute (.Call (.Name "super" p0) [] [] p1) "__init__" p2) [.Constant (.str text) k p3] [] p4) env = (do
      let ov ← attributeBase (.Call (.Name "super" p0) [] [] p1) "__init__" env (eval (.Call (.Name "super" p0) [] [] p1) env)
      standAt p2.atName
      let (f, first) ← holding [ov] (getMethod ov "__init__" (pl env))
      callWith p4 f first (backTo p4 (starEach [.Constant (.str text) k p3] env)) [])
section
variable {w : World} {prog : Program} {A : Around} {E : Value → Shared → Prop} {K : Frag} {mg mb : Str → Option Value} {C : Addr} {f : Str} {v : Value} {hp : Heap} {g : Array GenState} {d : Drawn} {t : Nat} {os : OsState}
/-- C(v) -/
theorem call_gate {Q : Value → Shared → Prop} (G : Gate prog K C f) (kx : K.In hp) (hr : L2.Room 0 A) (hg : hp.Ns mainGlobals mg) (hb : hp.Ns builtinsNs mb) (hms : mg "super" = none) (hbs : mb "super" = some (.type "super")) (hlim : hp.NoLimit)
    (hq : ∀ h' tk' e dx t1, (∀ b o, hp.get? b = some o → h'.get? b = some o) → hp.objs.size ≤ e → hp.objs.size ≤ dx → h'.get? e = some { cls := .ref C, dict := some dx, data := .fields #[.ref t1, .none, .none, .none, .bool false, .none] } →
      h'.Ns1 dx (fun y => if y = f then some v else none) → Q (.ref e) ⟨h', g, d, tk', os⟩) :
    wpAny (model prog w) A (call (.ref C) [v]) Q E ⟨hp, g, d, t, os⟩ := by
  obtain ⟨nm, q, N, bs, bm, sn, sub, ab, col, dd, k0, k1, k2, k3, k5, hC, hbm⟩ := G.T.cls
  obtain ⟨fI, cda, cc, name, qual, text, kk, params, scope, dV, kV, doc, pm, ct, ccl, cl, an, od, cdd, cld, osl, ccs, csl, p0, p1, p2, p3, p4, p5, p6, p7, p8, p9, ar, vs, file, tf, pl,
    a1, a2, a3, a4, a5, a6, a7, a8, a9, b1, b2, b3, b4, b5, b6, b7, b8, b9, c1, c2, c3, c4, c5, c6, c7, c8, c9⟩ := G.rest
  have up : ∀ b o, hp.get? b = some o → ((hp.push (kdv_tup [v])).push (PySem.HandSPX.excO C hp.objs.size)).get? b = some o := fun b o z => Heap.get?_push_of_some _ (Heap.get?_push_of_some _ z)
  have hget : ((hp.push (kdv_tup [v])).push (PySem.HandSPX.excO C hp.objs.size)).get? (hp.objs.size + 1) = some (PySem.HandSPX.excO C hp.objs.size) := by heap_get
  refine wpAny_call (PySem.HandSPX.call_own F.excBase_ValueError (fun Y => PySem.HandSPX.refsVE_contains Y bm hbm) (kx _ _ hC) (looks_findIn kx a1) (fun self => bind_fn kx self a2) (by show 1 ≤ sizeLine; rw [sizeLine_eq]; omega) ?_)
  refine init_run (kx.keeps up) (show (A.under (.builtin "type.__call__" ⟨.ref C :: [v], []⟩)).depth < recursionLimit from by have := hr.dp; show A.depth + 1 < _; omega) G.T (hg.keeps up) (hb.keeps up) hms hbs (hlim.keeps up) a3 a4 a5 a6 a7 a8 a9 b1 b2 (b3 _ _ _).1 b4 b5 b6 b7 b8 b9 c1 c2 c3 c4 c5 c6 c7 c9 c8 hget ?_ ?_
  · cases z : K.lookup (hp.objs.size + 1) with
    | none => rfl
    | some o =>
      exact absurd (Heap.lt_size (kx _ _ z)) (Nat.not_lt.mpr (Nat.le_succ _))
  · intro h' tk' dx t1 kp dn he hn
    have sz : hp.objs.size ≤ ((hp.push (kdv_tup [v])).push (PySem.HandSPX.excO C hp.objs.size)).objs.size := by
      have := Heap.lt_size hget
      exact Nat.le_of_lt (Nat.lt_of_succ_lt this)
    exact ⟨rfl, hq h' tk' _ dx t1 (fun b o z => kp b o (Nat.ne_of_lt (Nat.lt_succ_of_lt (Heap.lt_size z))) (up b o z)) (Nat.le_succ _) (Nat.le_trans sz dn) he hn⟩
/-- C(f=v) -/
theorem call_gateK {Q : Value → Shared → Prop} (G : Gate prog K C f) (kx : K.In hp) (hr : L2.Room 0 A) (hg : hp.Ns mainGlobals mg) (hb : hp.Ns builtinsNs mb) (hms : mg "super" = none) (hbs : mb "super" = some (.type "super")) (hlim : hp.NoLimit)
    (hq : ∀ h' tk' e dx t1, (∀ b o, hp.get? b = some o → h'.get? b = some o) → hp.objs.size ≤ e → hp.objs.size ≤ dx → h'.get? e = some { cls := .ref C, dict := some dx, data := .fields #[.ref t1, .none, .none, .none, .bool false, .none] } →
      h'.Ns1 dx (fun y => if y = f then some v else none) → Q (.ref e) ⟨h', g, d, tk', os⟩) :
    wpAny (model prog w) A (call (.ref C) [] [(f, v)]) Q E ⟨hp, g, d, t, os⟩ := by
  obtain ⟨nm, q, N, bs, bm, sn, sub, ab, col, dd, k0, k1, k2, k3, k5, hC, hbm⟩ := G.T.cls
  obtain ⟨fI, cda, cc, name, qual, text, kk, params, scope, dV, kV, doc, pm, ct, ccl, cl, an, od, cdd, cld, osl, ccs, csl, p0, p1, p2, p3, p4, p5, p6, p7, p8, p9, ar, vs, file, tf, pl,
    a1, a2, a3, a4, a5, a6, a7, a8, a9, b1, b2, b3, b4, b5, b6, b7, b8, b9, c1, c2, c3, c4, c5, c6, c7, c8, c9⟩ := G.rest
  have up : ∀ b o, hp.get? b = some o → ((hp.push (kdv_tup [])).push (PySem.HandSPX.excO C hp.objs.size)).get? b = some o := fun b o z => Heap.get?_push_of_some _ (Heap.get?_push_of_some _ z)
  have hget : ((hp.push (kdv_tup [])).push (PySem.HandSPX.excO C hp.objs.size)).get? (hp.objs.size + 1) = some (PySem.HandSPX.excO C hp.objs.size) := by heap_get
  refine wpAny_call (PySem.GAK.call_kw F.excBase_ValueError (fun Y => PySem.HandSPX.refsVE_contains Y bm hbm) (kx _ _ hC) (looks_findIn kx a1) (fun self => bind_fn kx self a2) ?_)
  refine init_run (kx.keeps up) (show (A.under (.builtin "type.__call__" ⟨[.ref C], [(f, v)]⟩)).depth < recursionLimit from by have := hr.dp; show A.depth + 1 < _; omega) G.T (hg.keeps up) (hb.keeps up) hms hbs (hlim.keeps up) a3 a4 a5 a6 a7 a8 a9 b1 b2 (b3 _ _ _).2 b4 b5 b6 b7 b8 b9 c1 c2 c3 c4 c5 c6 c7 c9 c8 hget ?_ ?_
  · cases z : K.lookup (hp.objs.size + 1) with
    | none => rfl
    | some o =>
      exact absurd (Heap.lt_size (kx _ _ z)) (Nat.not_lt.mpr (Nat.le_succ _))
  · intro h' tk' dx t1 kp dn he hn
    have sz : hp.objs.size ≤ ((hp.push (kdv_tup [])).push (PySem.HandSPX.excO C hp.objs.size)).objs.size := by
      have := Heap.lt_size hget
      exact Nat.le_of_lt (Nat.lt_of_succ_lt this)
    exact ⟨rfl, hq h' tk' _ dx t1 (fun b o z => kp b o (Nat.ne_of_lt (Nat.lt_succ_of_lt (Heap.lt_size z))) (up b o z)) (Nat.le_succ _) (Nat.le_trans sz dn) he hn⟩
end
end GA
namespace L2
open PyProof.Rows PySem PySem.Spec
section
variable {X : Cx} {e : Expr} {te : TE} {x : Str} {C : Addr} {f : Str} {p pos : Pos}
theorem gate_xd {mA : Str → Option Value} {y : V} {u : Value} (r : RelV y u) (hm : mA = fun z => if z = f then some u else none) (g : Str) : RelO (([(f, y)] : List (Str × V)).lookup g) (mA g) := by
  subst hm
  exact relO_put (fs := []) (mA := fun _ => none) r (fun _ => True.intro) g
/-- raise C(e): C's own __init__ keeps e as the field f -/
theorem pmk_gate (G : GA.Gate X.prog X.K C f) (hr : Room 0 X.A) (hms : X.mg "super" = none) (hg : Gl X x) (hm : X.mg x = some (.ref C)) (he : PE X e te) (hs : starEach [e] X.env = (false, eval e X.env) :: starEach [] X.env := by rfl) (hdb : (x == ("__debug__" : Str)) = false := by decide) :
    L2N.PMk X (.Call (.Name x p) [e] [] pos) (fun σ H Q => te σ H fun y H1 => ∀ dx, H1 dx = none → Q (.ref C) (some dx) (upd H1 dx (.xd [(f, y)]))) := by
  intro pins s σ H Q I h
  (refine wpAny_Call_Name_kw (ld_glob I hg hm ?_ hdb))
  refine PySem.W.callWith_K (h₀ := X.base) I.ok.mod.kin G.T.kC ?_ hs (by rfl)
  rw [hs]
  (show wpAny _ _ (spliced ((false, eval e X.env) :: backTo pos (starEach [] X.env))) _ _ s)
  refine Calls.spliced_cons (thn (he.run pins s σ H _ I h) fun u s1 ⟨y, H1, I1, r1, q1⟩ => ?_)
  (refine Calls.spliced_nil ⟨I1.kIn, ?_⟩)
  (show wpAny _ _ (call (.ref C) [u]) _ _ _)
  obtain ⟨mb, b1, b2⟩ := I1.mod.blt
  obtain ⟨hp, g, d, t, os⟩ := s1
  refine GA.call_gate G I1.kIn hr (I1.mod.glob.keeps I1.bk) (b1.keeps I1.bk) hms ((b2 "super" (by decide)).trans (by kernel_rfl)) (I1.mod.nolimit.keeps I1.bk) fun h' tk' a dx t1 kp ha hd hae hn => ?_
  have hda : dx ≠ a := fun z => by
    obtain ⟨o, es, ep, e1, e2, _⟩ := hn
    rw [z, hae] at e1
    have z2 := Option.some.inj e1
    subst z2
    cases e2
  obtain ⟨G', g1, g2⟩ := restrict h' fun b => decide (b ≠ a)
  have gk : ∀ b, b ≠ a → G'.get? b = h'.get? b := fun b hb => g1 b (decide_eq_true hb)
  have ge : G'.get? a = none := g2 a (by simp)
  have nH : H1 dx = none := I1.hok.fresh hd
  have nA : H1 a = none := I1.hok.fresh ha
  have J : Inv X pins σ (upd H1 dx (.xd [(f, y)])) ⟨G', g, d, tk', os⟩ := I1.laid (t' := tk') (a := dx) (o := .xd [(f, y)]) (h' := G') (fun b o z => (gk b (Nat.ne_of_lt (Nat.lt_of_lt_of_le (Heap.lt_size z) ha))).trans (kp b o z)) hd
    ⟨_, hn.at fun o z => (gk dx hda).trans z, gate_xd r1 rfl⟩
  exact ⟨a, _, _, ⟨G', g, d, tk', os⟩, _, .ref C, some dx, rfl, J, fun b o z => by
    by_cases hba : b = a
    · rw [hba, ge] at z
      cases z
    · exact (gk b hba).symm.trans z, ge, hae, ⟨rfl, rfl, fun vs e => by cases e; rfl⟩, rfl, rfl, by rw [upd_ne (Ne.symm hda)]; exact nA, rfl, I1.bare, raises_own G.T.exC G.T.tyC, q1 dx nH⟩
/-- C(e).f: the exception is made, its field read, and let lie -/
theorem pe_gateF {apos : Pos} (G : GA.Gate X.prog X.K C f) (T : XfC X.K C) (hno : PySem.W.findIn X.K (.ref C) f = some none) (hr : Room 0 X.A) (hms : X.mg "super" = none) (hg : Gl X x) (hm : X.mg x = some (.ref C)) (he : PE X e te)
    (hs : starEach [e] X.env = (false, eval e X.env) :: starEach [] X.env := by rfl) (hdb : (x == ("__debug__" : Str)) = false := by decide)
    (hb : attributeBase (.Call (.Name x p) [e] [] pos) f X.env (eval (.Call (.Name x p) [e] [] pos) X.env) = eval (.Call (.Name x p) [e] [] pos) X.env := by rfl) :
    PE X (.Attribute (.Call (.Name x p) [e] [] pos) f apos) te := by
  (refine ⟨fun pins s σ H Q I h => ?_⟩)
  refine attr_of hb ?_
  (refine wpAny_Call_Name_kw (ld_glob I hg hm ?_ hdb))
  refine PySem.W.callWith_K (h₀ := X.base) I.ok.mod.kin G.T.kC ?_ hs (by rfl)
  rw [hs]
  (show wpAny _ _ (spliced ((false, eval e X.env) :: backTo pos (starEach [] X.env))) _ _ s)
  refine Calls.spliced_cons (thn (he.run pins s σ H _ I h) fun u s1 ⟨y, H1, I1, r1, q1⟩ => ?_)
  (refine Calls.spliced_nil ⟨I1.kIn, ?_⟩)
  (show wpAny _ _ (call (.ref C) [u]) _ _ _)
  obtain ⟨mb, b1, b2⟩ := I1.mod.blt
  obtain ⟨hp, g, d, t, os⟩ := s1
  refine GA.call_gate G I1.kIn hr (I1.mod.glob.keeps I1.bk) (b1.keeps I1.bk) hms ((b2 "super" (by decide)).trans (by kernel_rfl)) (I1.mod.nolimit.keeps I1.bk) fun h' tk' a dx t1 kp ha hd hae hn => ?_
  have J : Inv X pins σ H1 ⟨h', g, d, tk', os⟩ := I1.kept (t' := tk') kp
  obtain ⟨od, ho, hl⟩ := lookIn_ns hn
  have IA : PySem.W.InstAt h' a _ C (some od) := ⟨hae, rfl, rfl, ho⟩
  exact HandSPX.exc_get J.kIn IA T.ga T.gg T.exC (PySem.W.findObj_own T.hdC hno rfl (by rw [hl, if_pos rfl])) (handed_of r1) ⟨y, H1, J.tok _, r1, q1⟩
/-- C(f=e).f -/
theorem pe_gateFK {apos kp : Pos} (G : GA.Gate X.prog X.K C f) (T : XfC X.K C) (hno : PySem.W.findIn X.K (.ref C) f = some none) (hr : Room 0 X.A) (hms : X.mg "super" = none) (hg : Gl X x) (hm : X.mg x = some (.ref C)) (he : PE X e te) (hdb : (x == ("__debug__" : Str)) = false := by decide)
    (hb : attributeBase (.Call (.Name x p) [] [⟨some f, e, kp⟩] pos) f X.env (eval (.Call (.Name x p) [] [⟨some f, e, kp⟩] pos) X.env) = eval (.Call (.Name x p) [] [⟨some f, e, kp⟩] pos) X.env := by rfl) :
    PE X (.Attribute (.Call (.Name x p) [] [⟨some f, e, kp⟩] pos) f apos) te := by
  (refine ⟨fun pins s σ H Q I h => ?_⟩)
  refine attr_of hb ?_
  (refine wpAny_Call_Name_kw (ld_glob I hg hm ?_ hdb))
  let Q' : List V → Hp → Prop := fun xs H1 => match xs with
    | [y] => Q y H1
    | _ => False
  refine PySem.W.callWith_KW0 (h₀ := X.base) I.ok.mod.kin G.T.kC (by rfl) (thn ((pk_cons (nm := some f) (kpos := kp) he pk_nil).run pos pins s σ H Q' I h) fun ks s1 ⟨xs, H1, I1, rr, q1⟩ => ?_) (by rfl)
  cases rr with
  | nil => exact q1.elim
  | cons r1 rn =>
    cases rn with
    | cons _ _ => exact q1.elim
    | nil =>
      rename_i y u _
      refine ⟨I1.kIn, ?_⟩
      show wpAny _ _ (call (.ref C) [] [(f, u)]) _ _ _
      obtain ⟨mb, b1, b2⟩ := I1.mod.blt
      obtain ⟨hp, g, d, t, os⟩ := s1
      refine GA.call_gateK G I1.kIn hr (I1.mod.glob.keeps I1.bk) (b1.keeps I1.bk) hms ((b2 "super" (by decide)).trans (by kernel_rfl)) (I1.mod.nolimit.keeps I1.bk) fun h' tk' a dx t1 kp ha hd hae hn => ?_
      have J : Inv X pins σ H1 ⟨h', g, d, tk', os⟩ := I1.kept (t' := tk') kp
      obtain ⟨od, ho, hl⟩ := lookIn_ns hn
      have IA : PySem.W.InstAt h' a _ C (some od) := ⟨hae, rfl, rfl, ho⟩
      exact HandSPX.exc_get J.kIn IA T.ga T.gg T.exC (PySem.W.findObj_own T.hdC hno rfl (by rw [hl, if_pos rfl])) (handed_of r1) ⟨y, H1, J.tok _, r1, q1⟩
end
end L2
end

section
set_option maxRecDepth 100000
set_option maxHeartbeats 2000001
/-! PvGb: the facts of PvGa's classes, by a look at the written part. -/
namespace GA
open PySem PySem.Spec PySem.W PySem.Calls PyProof.Rows
theorem ba {a b : Bool} (w : (a && b) = true) : a = true ∧ b = true := Bool.and_eq_true_iff.mp w
/-- the class itself -/
def oexB (K : Frag) (C : Addr) : Bool := (match K.lookup C with
  | some ⟨.type t, _, .cls cd, sl⟩ => (match cd.mro, sl.toList with
    | .ref C' :: bm, [_, _, _, _, some (.builtin n), _] => decide (t = "type") && (decide (C' = C) && (decide (n = "ValueError.__new__") && (!cd.hasDel && (cd.hasDict && PySem.HandSPX.refsVE bm))))
    | _, _ => false)
  | _ => false) && (decide (findIn K (.ref C) "__setattr__" = some (some (.builtin "object.__setattr__"))) && (decide (subIn K (.ref C) (.type "BaseException") = some true) && (decide (typeIn K (.ref C) = some (.type "type")) && keepIn K (.ref C))))
theorem oexB_ok {K : Frag} {C : Addr} (h : oexB K C = true) : L2.OexC K C := by
  obtain ⟨h1, h⟩ := ba h
  obtain ⟨h2, h⟩ := ba h
  obtain ⟨h3, h⟩ := ba h
  obtain ⟨h4, h5⟩ := ba h
  refine ⟨?_, of_decide_eq_true h2, of_decide_eq_true h3, of_decide_eq_true h4, h5⟩
  split at h1
  · rename_i t dd cd sl ho
    split at h1
    · (rename_i C' bm k0 k1 k2 k3 n k5 hm hs)
      obtain ⟨a1, h1⟩ := ba h1
      obtain ⟨a2, h1⟩ := ba h1
      obtain ⟨a3, h1⟩ := ba h1
      obtain ⟨a4, h1⟩ := ba h1
      obtain ⟨a5, a6⟩ := ba h1
      have a1 := of_decide_eq_true a1
      have a2 := of_decide_eq_true a2
      have a3 := of_decide_eq_true a3
      subst a1 a2 a3
      (obtain ⟨nm, bs, mro, ns, qn, hd, sn, sub, ab, col, del⟩ := cd)
      dsimp only at hm a4 a5
      have a4 : del = false := by simpa using a4
      subst hm a4 a5
      have hsl : sl = #[k0, k1, k2, k3, some (.builtin "ValueError.__new__"), k5] := by
        obtain ⟨l⟩ := sl
        simp only at hs
        rw [hs]
      subst hsl
      exact ⟨nm, qn, ns, bs, bm, sn, sub, ab, col, dd, k0, k1, k2, k3, k5, ho, a6⟩
    · cases h1
  · cases h1
abbrev FnC : Type := Option (Str × Str × Arguments × FuncBody × Scope)
/-- what stands at a: a function's words -/
def fnC (K : Frag) (a : Addr) : FnC := match K.lookup a with
  | some ⟨_, _, .func fd, _⟩ => some (fd.name, fd.qualname, fd.params, fd.body, fd.scope)
  | _ => none
def iniB (K : Frag) (C fI : Addr) (file : Str) : Bool := match K.lookup fI with
  | some ⟨.type t, _, .func fd, _⟩ => decide (t = "function") && (decide (fd.globals = mainGlobals) && (decide (fd.builtins = builtinsNs) && (decide (fd.defaults = .none) && ((match fd.closure with
      | [(y, cc)] => decide (y = ("__class__" : Str)) && (match K.lookup cc with
        | some ⟨_, _, .cell (some (.ref D)), _⟩ => decide (D = C)
        | _ => false) | _ => false) && (match fd.code with
      | .ref cda => codeIn K (.ref cda) fd.qualname && (match K.lookup cda with
        | some ⟨_, _, .fields vs, _⟩ => (match (vs[2]? : Option Value) with
          | some (Value.str fl _) => file == fl
          | _ => false)
        | _ => false)
      | _ => false)))))
  | _ => false
theorem iniB_ok {K : Frag} {C fI : Addr} {file name qual : Str} {params : Arguments} {body : List Stmt} {scope : Scope} (h : iniB K C fI file = true) (hf : fnC K fI = some (name, qual, params, .stmts body, scope)) :
    ∃ (cda cc : Addr) (kV doc pm ct ccl cl : Value) (an od cdd cld : Option Addr) (osl ccs csl : Array (Option Value)) (vs : Array Value) (fl : Str) (tf : Tok),
      K.lookup fI = some ⟨.type "function", od, .func (ksFn name qual params body scope .none kV doc pm an (.ref cda) ct cc), osl⟩ ∧ codeIn K (.ref cda) qual = true ∧
      K.lookup cda = some ⟨ccl, cdd, .fields vs, ccs⟩ ∧ vs[2]? = some (.str fl tf) ∧ (file == fl) = true ∧ K.lookup cc = some ⟨cl, cld, .cell (some (.ref C)), csl⟩ := by
  unfold iniB at h
  unfold fnC at hf
  split at h
  · rename_i t od fd osl ho
    rw [ho] at hf
    obtain ⟨a1, h⟩ := ba h
    obtain ⟨a2, h⟩ := ba h
    obtain ⟨a3, h⟩ := ba h
    obtain ⟨a4, h⟩ := ba h
    obtain ⟨a5, a6⟩ := ba h
    have r1 := of_decide_eq_true a1
    have r2 := of_decide_eq_true a2
    have r3 := of_decide_eq_true a3
    have r4 := of_decide_eq_true a4
    split at a5
    · rename_i y cc hcl
      obtain ⟨b1, b2⟩ := ba a5
      have w1 := of_decide_eq_true b1
      split at b2
      · rename_i cl cld D csl hcc
        have w2 := of_decide_eq_true b2
        split at a6
        · rename_i cda hcd
          obtain ⟨c1, c2⟩ := ba a6
          split at c2
          · rename_i ccl cdd vs ccs hlk
            split at c2
            · rename_i fl tf hv
              (obtain ⟨n1, n2, n3, n4, n5, n6, n7, n8, n9, n10, n11, n12, n13, n14, n15⟩ := fd)
              dsimp only at r2 r3 r4 hcl hcd c1 hf
              have hf := Option.some.inj hf
              obtain ⟨e1, e2, e3, e4, e5⟩ : n1 = name ∧ n2 = qual ∧ n3 = params ∧ n4 = .stmts body ∧ n5 = scope := by simpa using hf
              subst r1 r2 r3 r4 w1 w2 hcl hcd e1 e2 e3 e4 e5
              exact ⟨cda, cc, _, _, _, _, ccl, cl, _, od, cdd, cld, osl, ccs, csl, vs, fl, tf, ho, c1, hlk, hv, c2, hcc⟩
            · cases c2
          · cases c2
        · cases a6
      · cases b2
    · cases a5
  · cases h
def gB (K : Frag) (C : Addr) (f file : Str) : Bool := oexB K C && ((match findIn K (.ref C) "__init__" with
    | some (some (.ref fI)) => decide (typeIn K (.ref fI) = some (.type "function")) && iniB K C fI file
    | _ => false) && (decide (ks_superIn K C C "__init__" = some (some (.builtin "ValueError.__init__"))) && (decide (subIn K (.ref C) (.type "ValueError") = some true) && (decide (nsIn K cStatics "thirdparty.any" = some none) && decide (findIn K (.ref C) f = some none)))))
/-- what the text of such an __init__ must show -/
def scB (sc : Scope) (f : Str) : Bool := decide (sc.names.lookup ("super" : Str) = some .globalImplicit) && (decide (sc.names.lookup ("__class__" : Str) = some .free) && (decide (sc.names.lookup ("self" : Str) = some .local) && (decide (sc.names.lookup f = some .local) &&
  ((sc.names.all fun x => decide (x.2 ≠ .cell)) && (!sc.isCoroutine && (!sc.isGenerator && (decide (f ≠ "self") && !(f == ("__debug__" : Str)))))))))
structure Text (prog : Program) (f name qual text : Str) (k : Nat) (params : Arguments) (scope : Scope) (p0 p1 p2 p3 p4 p5 p6 p7 p8 p9 : Pos) : Prop where
  top : (prog.main.scope.names.lookup ("super" : Str)).isSome = false
  hd : ∃ ar, (params.posonlyargs ++ params.args).head? = some ar ∧ ar.arg = "self"
  sc : scB scope f = true
  kind : scope.kind = .function
  bind : ∀ (kV doc pm ct cdv : Value) (an : Option Addr) (cc : Addr) (u v : Value), bindArgs (ksFn name qual params (gBody text f k p0 p1 p2 p3 p4 p5 p6 p7 p8 p9) scope .none kV doc pm an cdv ct cc) ⟨[u, v], []⟩ = pure ([("self", u), (f, v)] : List (Str × Value)) ∧
    bindArgs (ksFn name qual params (gBody text f k p0 p1 p2 p3 p4 p5 p6 p7 p8 p9) scope .none kV doc pm an cdv ct cc) ⟨[u], [(f, v)]⟩ = pure ([("self", u), (f, v)] : List (Str × Value))
  ev : ∃ pl : Env → Sem Bool, ∀ env : Env, eval (.Call (.Attribute (.Call (.Name "super" p0) [] [] p1) "__init__" p2) [.Constant (.str text) k p3] [] p4) env = (do
      let ov ← attributeBase (.Call (.Name "super" p0) [] [] p1) "__init__" env (eval (.Call (.Name "super" p0) [] [] p1) env)
      standAt p2.atName
      let (f, first) ← holding [ov] (getMethod ov "__init__" (pl env))
      callWith p4 f first (backTo p4 (starEach [.Constant (.str text) k p3] env)) [])
theorem gate_of {prog : Program} {K : Frag} {C : Addr} {f name qual text : Str} {k : Nat} {params : Arguments} {scope : Scope} {p0 p1 p2 p3 p4 p5 p6 p7 p8 p9 : Pos} (t : Text prog f name qual text k params scope p0 p1 p2 p3 p4 p5 p6 p7 p8 p9)
    (h : gB K C f prog.main.file = true) (hf : fnC K (He.ma K C "__init__") = some (name, qual, params, .stmts (gBody text f k p0 p1 p2 p3 p4 p5 p6 p7 p8 p9), scope)) : Gate prog K C f := by
  obtain ⟨h1, h⟩ := ba h
  obtain ⟨h2, h⟩ := ba h
  obtain ⟨h3, h⟩ := ba h
  obtain ⟨h4, h⟩ := ba h
  obtain ⟨h5, h6⟩ := ba h
  refine ⟨oexB_ok h1, ?_⟩
  split at h2
  · rename_i fI hi
    obtain ⟨a1, a2⟩ := ba h2
    have e : He.ma K C "__init__" = fI := by unfold He.ma; rw [hi]
    rw [e] at hf
    obtain ⟨cda, cc, kV, doc, pm, ct, ccl, cl, an, od, cdd, cld, osl, ccs, csl, vs, fl, tf, l1, l2, l3, l4, l5, l6⟩ := iniB_ok a2 hf
    obtain ⟨ar, r1, r2⟩ := t.hd
    obtain ⟨pl, r3⟩ := t.ev
    obtain ⟨b1, b⟩ := ba t.sc
    obtain ⟨b2, b⟩ := ba b
    obtain ⟨b3, b⟩ := ba b
    obtain ⟨b4, b⟩ := ba b
    obtain ⟨b5, b⟩ := ba b
    obtain ⟨b6, b⟩ := ba b
    obtain ⟨b7, b⟩ := ba b
    obtain ⟨b8, b9⟩ := ba b
    exact ⟨fI, cda, cc, name, qual, text, k, params, scope, .none, kV, doc, pm, ct, ccl, cl, an, od, cdd, cld, osl, ccs, csl, p0, p1, p2, p3, p4, p5, p6, p7, p8, p9, ar, vs, fl, tf, pl,
      hi, of_decide_eq_true a1, l1, l2, l3, l4, l5, t.top, l6, r1, r2, fun s u v => ⟨.of_eq (t.bind _ _ _ _ _ _ _ u v).1, .of_eq (t.bind _ _ _ _ _ _ _ u v).2⟩, of_decide_eq_true b1, of_decide_eq_true b2, of_decide_eq_true b3, of_decide_eq_true b4,
      fun x hx => of_decide_eq_true (List.all_eq_true.mp b5 x hx), by simpa using b6, by simpa using b7, t.kind, of_decide_eq_true b8, by simpa using b9, of_decide_eq_true h3, of_decide_eq_true h4, of_decide_eq_true h5, of_decide_eq_true h6, r3⟩
  · cases h2
/-! ### the head's look -/
abbrev AlC : Type := He.AlD × Bool × List FnC
/-- the classes that the law's text makes, with their __init__ -/
abbrev GD : Type := Str × FnC
def refsC (g : Addr → Option Obj) (a : Addr) : List Addr := match g a with
  | some o => He.refsD o
  | none => []
/-- what these lead to in n steps -/
def runC (g : Addr → Option Obj) : Nat → List Addr → List Addr
  | 0, as => as
  | n + 1, as => as ++ runC g n (as.flatMap (refsC g))
/-- the names' things, and what they lead to in n steps -/
def fragC (names : List Str) (n : Nat) (g : Addr → Option Obj) : Frag := He.frG g (mainGlobals :: cStatics :: runC g n (names.map (He.ga (He.frG g [mainGlobals]))))
def obsC (fa : List He.Fa) (fn : List He.DefD) (gs : List GD) (ex : Frag → Bool) (K : Frag) : AlC := (He.obsD fa fn K, ex K, gs.map fun c => fnC K (He.ma K (He.ga K c.1) "__init__"))
def valC (fn : List He.DefD) (gs : List GD) : AlC := (He.valD fn, true, gs.map (·.2))
def SaysC (fa : List He.Fa) (fn : List He.DefD) (gs : List GD) (ex : Frag → Bool) (K : Frag) : Prop := obsC fa fn gs ex K = valC fn gs
def hookC (names : List Str) (n : Nat) (fa : List He.Fa) (fn : List He.DefD) (gs : List GD) (ex : Frag → Bool) : Hook where
  α := AlC
  obs := fun s => obsC fa fn gs ex (fragC names n s.heap.get?)
  val := fun _ => valC fn gs
  says := fun _ h => ∃ K : Frag, K.In h ∧ SaysC fa fn gs ex K
  of := fun _ _ e => ⟨_, He.frG_in, e⟩
  keeps := fun _ _ _ ⟨K, kin, c⟩ k => ⟨K, Frag.In.keeps kin k, c⟩
theorem obsC_eq {names : List Str} {n : Nat} {fa : List He.Fa} {fn : List He.DefD} {gs : List GD} {ex : Frag → Bool} {g : Addr → Option Obj} {s : Shared} (h : ∀ a, g a = s.heap.get? a) : obsC fa fn gs ex (fragC names n g) = (hookC names n fa fn gs ex).obs s := by
  (have e : g = s.heap.get? := funext h)
  rw [e] <;> rfl
section
variable {fa : List He.Fa} {fn : List He.DefD} {gs : List GD} {ex : Frag → Bool} {K : Frag}
theorem SaysC.d (c : SaysC fa fn gs ex K) : He.SaysD fa fn K := congrArg (fun z : AlC => z.1) c
theorem SaysC.more (c : SaysC fa fn gs ex K) : ex K = true := congrArg (fun z : AlC => z.2.1) c
theorem SaysC.gate (c : SaysC fa fn gs ex K) (i : Nat) {p : GD} (h : gs[i]? = some p := by rfl) : fnC K (He.ma K (He.ga K p.1) "__init__") = p.2 := by
  have e : (gs.map fun c => fnC K (He.ma K (He.ga K c.1) "__init__")) = gs.map (·.2) := congrArg (fun z : AlC => z.2.2) c
  have e2 : (gs.map fun c => fnC K (He.ma K (He.ga K c.1) "__init__"))[i]? = (gs.map (·.2))[i]? := by rw [e]
  (rw [List.getElem?_map, List.getElem?_map, h] at e2)
  exact Option.some.inj e2
end
end GA
end

section
set_option maxRecDepth 100000
namespace PV
open L2 PySem PySem.Spec PyProof.Rows

/-! ### what a value is, by its data -/
section
variable {K : PySem.W.Frag} {J J' : Jn} {H H' : Hp} {h h' : Hh} {d : D} {v : V} {ds : List D} {vs : List V}
theorem size_of {n : Nat} (h : sizeOk n = true) : n ≤ sizeLine := by rw [sizeLine_eq]; exact of_decide_eq_true h
theorem RD.int_inv {i : Int} (r : RD K J H (.int i) v) : v = .int i := by cases r; rfl
theorem RD.bl_inv {b : Bool} (r : RD K J H (.bl b) v) : v = .bl b := by cases r; rfl
theorem RD.str_inv {x : Str} (r : RD K J H (.str x) v) : v = .str x := by cases r; rfl
theorem RD.tup_inv (r : RD K J H (.tup ds) v) : ∃ a vs, v = .ref a ∧ SqT K H a vs ∧ vs.length ≤ sizeLine ∧ RDs K J H ds vs := by
  cases r with
  | tup n m q z r => exact ⟨_, _, rfl, .inl (.inl q), z, r⟩
  | ktup k z r => exact ⟨_, _, rfl, .inr k, z, r⟩
theorem RD.ft_inv (r : RD K J H (.ftup ds) v) : ∃ a vs, v = .ref a ∧ SqT K H a vs ∧ vs.length ≤ sizeLine ∧ RDs K J H ds vs := by
  cases r with
  | ft n m q c d z r => exact ⟨_, _, rfl, .inl (.inr ⟨_, q⟩), z, r⟩
theorem own_inv (rh : RH K J h H) (e : d.own h = some ds) (r : RD K J H d v) : ∃ a vs, v = .ref a ∧ H a = some (.lst vs) ∧ vs.length ≤ sizeLine ∧ RDs K J H ds vs := by
  cases d with
  | lst xs =>
    cases r with
    | lst n m q z r => cases e; exact ⟨_, _, rfl, q, z, r⟩
  | ref i =>
    cases r with
    | ref q =>
      obtain ⟨o, u, h1, h2, h3⟩ := rh.at q
      simp only [D.own, h1] at e
      cases h3 with
      | lst z r => cases e; exact ⟨_, _, rfl, h2, z, r⟩
      | dct z r => cases e
  | _ => cases e
theorem seq_inv (rh : RH K J h H) (e : d.seq h = some ds) (r : RD K J H d v) : ∃ a vs, v = .ref a ∧ (SqL K H a vs ∨ SqT K H a vs) ∧ vs.length ≤ sizeLine ∧ RDs K J H ds vs := by
  cases d with
  | tup xs =>
    cases e
    obtain ⟨a, vs, e1, e2, e3, e4⟩ := r.tup_inv
    exact ⟨a, vs, e1, .inr e2, e3, e4⟩
  | lst xs =>
    cases r with
    | lst n m q z r => cases e; exact ⟨_, _, rfl, .inl (.inl (.inl q)), z, r⟩
  | fz xs =>
    cases r with
    | fz n m q z r => cases e; exact ⟨_, _, rfl, .inl (.inl (.inr ⟨_, q⟩)), z, r⟩
    | kfz k z r => cases e; exact ⟨_, _, rfl, .inl (.inr k), z, r⟩
  | ftup xs =>
    cases r with
    | ft n m q c d z r => cases e; exact ⟨_, _, rfl, .inr (.inl (.inr ⟨_, q⟩)), z, r⟩
  | ref i =>
    cases r with
    | ref q =>
      obtain ⟨o, u, h1, h2, h3⟩ := rh.at q
      simp only [D.seq, h1] at e
      cases h3 with
      | lst z r => cases e; exact ⟨_, _, rfl, .inl (.inl (.inl h2)), z, r⟩
      | dct z r => cases e
  | _ => cases e
/-- a list as it stands -/
theorem res_inv (rh : RH K J h H) (e : d.res h = .lst ds) (r : RD K J H d v) : ∃ a vs, v = .ref a ∧ SqL K H a vs ∧ vs.length ≤ sizeLine ∧ RDs K J H ds vs := by
  cases d with
  | lst xs =>
    cases r with
    | lst n m q z r => cases e; exact ⟨_, _, rfl, .inl (.inl q), z, r⟩
  | fz xs =>
    cases r with
    | fz n m q z r => cases e; exact ⟨_, _, rfl, .inl (.inr ⟨_, q⟩), z, r⟩
    | kfz k z r => cases e; exact ⟨_, _, rfl, .inr k, z, r⟩
  | ref i =>
    cases r with
    | ref q =>
      obtain ⟨o, u, h1, h2, h3⟩ := rh.at q
      simp only [D.res, h1] at e
      cases h3 with
      | lst z r => cases e; exact ⟨_, _, rfl, .inl (.inl h2), z, r⟩
      | dct z r => cases e
  | _ => cases e
theorem res_else {e : D} (h1 : d.res h = e) (h2 : ∀ xs, e ≠ .lst xs) : e = d := by
  cases d with
  | ref i =>
    simp only [D.res] at h1
    split at h1
    · exact absurd h1.symm (h2 _)
    · exact h1.symm
  | fz xs => exact absurd h1.symm (h2 _)
  | _ => exact h1.symm
theorem RD.newTup {p : Addr} (rh : RH K J h H) (n : H p = none) (r : RDs K J H ds vs) (z : vs.length ≤ sizeLine) : RD K J (upd H p (.tup vs)) (.tup ds) (.ref p) :=
  .tup (rh.notin n) (rh.notz n) upd_same z (r.ext (Ext.laid n))
theorem RD.newLst {p : Addr} (rh : RH K J h H) (n : H p = none) (r : RDs K J H ds vs) (z : vs.length ≤ sizeLine) : RD K J (upd H p (.lst vs)) (.lst ds) (.ref p) :=
  .lst (rh.notin n) (rh.notz n) upd_same z (r.ext (Ext.laid n))
end

/-! ### data as the library's data -/
mutual
theorem lay_py : ∀ d : D, d.lay = true → d.py.canLay0 = true
  | .non, _ => by simp only [D.py, PyData.canLay0]
  | .bl _, _ => by simp only [D.py, PyData.canLay0]
  | .int _, _ => by simp only [D.py, PyData.canLay0]
  | .str x, h => by simpa only [D.py, PyData.canLay0, D.lay] using h
  | .tup xs, h => by simp only [D.py, PyData.canLay0]; exact lays_pys xs (by simpa only [D.lay] using h)
  | .lst xs, h => by simp only [D.py, PyData.canLay0]; exact lays_pys xs (by simpa only [D.lay] using h)
  | .ref _, h => by simp [D.lay] at h
  | .fz _, h => by simp [D.lay] at h
  | .ftup _, h => by simp [D.lay] at h
  | .exc _, h => by simp [D.lay] at h
  | .exf _ _ _, h => by simp [D.lay] at h
theorem lays_pys : ∀ xs : List D, D.lays xs = true → PyData.canLayAll0 (D.pys xs) = true
  | [], _ => by simp only [D.pys, PyData.canLayAll0]
  | x :: xs, h => by
    simp only [D.lays, Bool.and_eq_true] at h
    simp only [D.pys, PyData.canLayAll0, lay_py x h.1, lays_pys xs h.2, Bool.and_self]
end
mutual
theorem dep_py : ∀ d : D, d.lay = true → d.py.depth = d.dep
  | .non, _ => by simp only [D.py, PyData.depth, D.dep]
  | .bl _, _ => by simp only [D.py, PyData.depth, D.dep]
  | .int _, _ => by simp only [D.py, PyData.depth, D.dep]
  | .str x, h => by simp only [D.py, PyData.depth, D.dep]
  | .tup xs, h => by simp only [D.py, PyData.depth, D.dep]; rw [deps_pys xs (by simpa only [D.lay] using h)]
  | .lst xs, h => by simp only [D.py, PyData.depth, D.dep]; rw [deps_pys xs (by simpa only [D.lay] using h)]
  | .ref _, h => by simp [D.lay] at h
  | .fz _, h => by simp [D.lay] at h
  | .ftup _, h => by simp [D.lay] at h
  | .exc _, h => by simp [D.lay] at h
  | .exf _ _ _, h => by simp [D.lay] at h
theorem deps_pys : ∀ xs : List D, D.lays xs = true → PyData.depthAll (D.pys xs) = D.deps xs
  | [], _ => by simp only [D.pys, PyData.depthAll, D.deps]
  | x :: xs, h => by
    simp only [D.lays, Bool.and_eq_true] at h
    simp only [D.pys, PyData.depthAll, D.deps, dep_py x h.1, deps_pys xs h.2]
end
theorem shp_py {d : D} (h : d.shp = true) : SeqAt.shaped d.py = true := by
  simp only [D.shp, Bool.and_eq_true, decide_eq_true_eq] at h
  show (PyData.canLay0 d.py && decide (d.py.depth ≤ 64)) = true
  rw [lay_py d h.1, dep_py d h.1, decide_eq_true h.2]; rfl
theorem shp_lay {d : D} (h : d.shp = true) : d.lay = true := by
  simp only [D.shp, Bool.and_eq_true] at h
  exact h.1
theorem cok_inv {a b : D} (h : D.cok a b = true) : a.lay = true ∧ b.lay = true ∧ min a.dep b.dep ≤ 64 := by
  unfold D.cok at h
  (simp only [Bool.or_eq_true, Bool.and_eq_true, decide_eq_true_eq] at h)
  rcases h with ⟨h1, h2⟩ | ⟨h1, h2, h3⟩
  · refine ⟨shp_lay h1, shp_lay h2, ?_⟩
    simp only [D.shp, Bool.and_eq_true, decide_eq_true_eq] at h1
    omega
  · exact ⟨h1, h2, h3⟩
theorem str_eqb (x y : Str) : (x == y) = decide (x = y) := by
  by_cases e : x = y
  · subst e; simp
  · rw [decide_eq_false e]; exact beq_eq_false_iff_ne.mpr e
mutual
theorem eqv_py : ∀ d e : D, d.lay = true → e.lay = true → PyData.eqv d.py e.py = D.eqv d e
  | .non, e, _, he => by cases e <;> first | (simp only [D.py, PyData.eqv, D.eqv]; done) | (simp [D.lay] at he; done)
  | .bl _, e, _, he => by cases e <;> first | (simp only [D.py, PyData.eqv, D.eqv]; done) | (simp [D.lay] at he; done)
  | .int _, e, _, he => by cases e <;> first | (simp only [D.py, PyData.eqv, D.eqv]; done) | (simp [D.lay] at he; done)
  | .str x, e, _, he => by cases e <;> first | (simp only [D.py, PyData.eqv, D.eqv, str_eqb]; done) | (simp [D.lay] at he; done)
  | .tup xs, e, hd, he => by
    cases e with
    | tup ys => simp only [D.py, PyData.eqv, D.eqv]; exact eqvs_pys xs ys (by simpa only [D.lay] using hd) (by simpa only [D.lay] using he)
    | ref _ => simp [D.lay] at he
    | fz _ => simp [D.lay] at he
    | ftup _ => simp [D.lay] at he
    | exc _ => simp [D.lay] at he
    | exf _ _ _ => simp [D.lay] at he
    | _ => simp only [D.py, PyData.eqv, D.eqv]
  | .lst xs, e, hd, he => by
    cases e with
    | lst ys => simp only [D.py, PyData.eqv, D.eqv]; exact eqvs_pys xs ys (by simpa only [D.lay] using hd) (by simpa only [D.lay] using he)
    | ref _ => simp [D.lay] at he
    | fz _ => simp [D.lay] at he
    | ftup _ => simp [D.lay] at he
    | exc _ => simp [D.lay] at he
    | exf _ _ _ => simp [D.lay] at he
    | _ => simp only [D.py, PyData.eqv, D.eqv]
  | .ref _, _, h, _ => by simp [D.lay] at h
  | .fz _, _, h, _ => by simp [D.lay] at h
  | .ftup _, _, h, _ => by simp [D.lay] at h
  | .exc _, _, h, _ => by simp [D.lay] at h
  | .exf _ _ _, _, h, _ => by simp [D.lay] at h
theorem eqvs_pys : ∀ xs ys : List D, D.lays xs = true → D.lays ys = true → PyData.eqvAll (D.pys xs) (D.pys ys) = D.eqvs xs ys
  | [], [], _, _ => by simp only [D.pys, PyData.eqvAll, D.eqvs]
  | [], y :: ys, _, _ => by simp only [D.pys, PyData.eqvAll, D.eqvs]
  | x :: xs, [], _, _ => by simp only [D.pys, PyData.eqvAll, D.eqvs]
  | x :: xs, (y :: ys), h, h' => by
    simp only [D.lays, Bool.and_eq_true] at h h'
    simp only [D.pys, PyData.eqvAll, D.eqvs, eqv_py x y h.1 h'.1, eqvs_pys xs ys h.2 h'.2]
end
section
variable {K : PySem.W.Frag} {J : Jn} {H : Hp} {h : Hh}
mutual
theorem RD.dp : ∀ (d : D) (v : V), d.lay = true → RD K J H d v → Dp K H v d.py
  | .non, _, _, r => by cases r; simp only [D.py]; exact .non
  | .bl b, _, _, r => by cases r; simp only [D.py]; exact .bl b
  | .int i, _, _, r => by cases r; simp only [D.py]; exact .int i
  | .str x, _, _, r => by cases r; simp only [D.py]; exact .str x
  | .tup xs, _, l, r => by
    obtain ⟨a, vs, rfl, hq, z, rs⟩ := r.tup_inv
    simp only [D.py]; exact .tup hq (RDs.dp xs vs (by simpa only [D.lay] using l) rs)
  | .lst xs, _, l, r => by
    cases r with
    | lst n m q z rs => simp only [D.py]; exact .lst (.inl (.inl q)) (RDs.dp xs _ (by simpa only [D.lay] using l) rs)
  | .ref _, _, l, _ => by simp [D.lay] at l
  | .fz _, _, l, _ => by simp [D.lay] at l
  | .ftup _, _, l, _ => by simp [D.lay] at l
  | .exc _, _, l, _ => by simp [D.lay] at l
  | .exf _ _ _, _, l, _ => by simp [D.lay] at l
theorem RDs.dp : ∀ (ds : List D) (vs : List V), D.lays ds = true → RDs K J H ds vs → DpAll K H vs (D.pys ds)
  | [], _, _, r => by cases r; simp only [D.pys]; exact .nil
  | d :: ds, _, l, r => by
    simp only [D.lays, Bool.and_eq_true] at l
    cases r with | cons a b => simp only [D.pys]; exact .cons (RD.dp d _ l.1 a) (RDs.dp ds _ l.2 b)
end
theorem res_dp {d : D} {v : V} (rh : RH K J h H) (l : (d.res h).lay = true) (r : RD K J H d v) : Dp K H v (d.res h).py := by
  cases e : d.res h with
  | lst xs =>
    obtain ⟨a, vs, rfl, hq, z, rs⟩ := res_inv rh e r
    rw [e] at l
    simp only [D.py]; exact .lst hq (RDs.dp xs vs (by simpa only [D.lay] using l) rs)
  | _ =>
    have e2 := res_else e (fun xs z => by cases z)
    rw [e] at l
    subst e2
    exact RD.dp _ v l r
theorem all_dp (rh : RH K J h H) : ∀ (k : Nat) (d : D) (v : V), (d.all h k).lay = true → RD K J H d v → Dp K H v (d.all h k).py
  | 0, d, v, l, r => RD.dp _ v l r
  | k + 1, d, v, l, r => by
    have many : ∀ (ds : List D) (vs : List V), D.lays (ds.map (D.all h k)) = true → RDs K J H ds vs → DpAll K H vs (D.pys (ds.map (D.all h k))) := by
      intro ds
      induction ds with
      | nil => intro vs _ r; cases r; exact .nil
      | cons x xs ih =>
        intro vs l r
        cases r with
        | cons a b =>
          simp only [List.map_cons, D.lays, Bool.and_eq_true] at l
          exact .cons (all_dp rh k x _ l.1 a) (ih _ l.2 b)
    cases d with
    | ref i =>
      cases r with
      | ref q =>
        obtain ⟨o, u, h1, h2, h3⟩ := rh.at q
        simp only [D.all, h1] at l ⊢
        cases h3 with
        | lst z rr => exact .lst (.inl (.inl h2)) (many _ _ (by simpa only [D.lay] using l) rr)
        | dct z rr => simp [D.lay] at l
    | tup xs =>
      obtain ⟨a, vs, rfl, hq, z, rs⟩ := r.tup_inv
      exact .tup hq (many xs vs (by simpa only [D.all, D.lay] using l) rs)
    | lst xs =>
      cases r with
      | lst n m q z rs => exact .lst (.inl (.inl q)) (many xs _ (by simpa only [D.all, D.lay] using l) rs)
    | non => exact RD.dp _ v l r
    | bl b => exact RD.dp _ v l r
    | int i => exact RD.dp _ v l r
    | str x => exact RD.dp _ v l r
    | fz xs => simp [D.all, D.lay] at l
    | ftup xs => simp [D.all, D.lay] at l
    | exc c => simp [D.all, D.lay] at l
    | exf c f d => simp [D.all, D.lay] at l
end

/-! ### operators -/
def rOp (K : PySem.W.Frag) (f : Hh → D → D → Option D) : R2 := fun x y H Q => ∃ J h dx dy d, RH K J h H ∧ RD K J H dx x ∧ RD K J H dy y ∧ f h dx dy = some d ∧ ∀ J' H' v, Ext J H J' H' → RH K J' h H' → RD K J' H' d v → Q v H'
def rCmp (K : PySem.W.Frag) (f : Hh → D → D → Option Bool) : R2 := fun x y H Q => ∃ J h dx dy b, RH K J h H ∧ RD K J H dx x ∧ RD K J H dy y ∧ f h dx dy = some b ∧ Q (.bl b) H
section
variable {X : Cx}
theorem ops_add : OpR X (binaryOp .Add) (rOp X.K (opBin .add)) := by
  intro pins s σ H x y v u Q I rx ry ⟨J, h, dx, dy, d, rh, r1, r2, e, q⟩
  simp only [opBin] at e
  split at e
  · cases r1; cases r2; cases e
    exact op_add pins s σ H _ _ v u Q I rx ry ⟨_, _, rfl, rfl, q _ _ _ Ext.refl rh (.int _)⟩
  · cases r1; cases r2
    split at e
    · rename_i hz; cases e
      exact op_add_str pins s σ H _ _ v u Q I rx ry ⟨_, _, rfl, rfl, size_of hz, q _ _ _ Ext.refl rh (.str _)⟩
    · cases e
  · split at e
    · rename_i xs ys hz; cases e
      obtain ⟨a, vs, rfl, ha, za, ra⟩ := r1.tup_inv
      obtain ⟨b, ws, rfl, hb, zb, rb⟩ := r2.tup_inv
      have hlen : vs.length + ws.length ≤ sizeLine := by rw [← ra.length, ← rb.length]; exact size_of hz
      refine op_catA pins s σ H _ _ v u Q I rx ry ⟨a, b, vs, ws, rfl, rfl, ha, hb, hlen, fun e => ?_, fun _ e => ?_, fun _ _ p np => ?_⟩
      · subst e; cases ra; exact q _ _ _ Ext.refl rh (by simpa using r2)
      · subst e; cases rb; exact q _ _ _ Ext.refl rh (by simpa using r1)
      · exact q _ _ _ (Ext.laid np) (rh.laid np) (RD.newTup rh np (ra.append rb) (by rw [List.length_append]; exact hlen))
    · cases e
  · split at e
    · rename_i e1 e2
      split at e
      · rename_i hz; cases e
        obtain ⟨a, vs, rfl, ha, za, ra⟩ := own_inv rh e1 r1
        obtain ⟨b, ws, rfl, hb, zb, rb⟩ := own_inv rh e2 r2
        have hlen : vs.length + ws.length ≤ sizeLine := by rw [← ra.length, ← rb.length]; exact size_of hz
        exact op_cat pins s σ H _ _ v u Q I rx ry ⟨a, b, vs, ws, rfl, rfl, ha, hb, hlen, fun p np =>
          q _ _ _ (Ext.laid np) (rh.laid np) (RD.newLst rh np (ra.append rb) (by rw [List.length_append]; exact hlen))⟩
      · cases e
    · cases e
theorem ops_sub : OpR X (binaryOp .Sub) (rOp X.K (opBin .sub)) := by
  intro pins s σ H x y v u Q I rx ry ⟨J, h, dx, dy, d, rh, r1, r2, e, q⟩
  simp only [opBin] at e
  split at e
  · cases r1; cases r2; cases e
    exact op_sub pins s σ H _ _ v u Q I rx ry ⟨_, _, rfl, rfl, q _ _ _ Ext.refl rh (.int _)⟩
  · cases e
theorem ops_mul : OpR X (binaryOp .Mult) (rOp X.K (opBin .mul)) := by
  intro pins s σ H x y v u Q I rx ry ⟨J, h, dx, dy, d, rh, r1, r2, e, q⟩
  simp only [opBin] at e
  split at e
  · cases r1; cases r2
    split at e
    · rename_i hz; cases e
      simp only [mulOk, Bool.or_eq_true] at hz
      rcases hz with (hz | hz) | hz
      · exact op_mulW pins s σ H _ _ v u Q I rx ry ⟨_, _, rfl, rfl, (show CMulW _ _ from of_decide_eq_true (p := _ < 1000000) hz), q _ _ _ Ext.refl rh (.int _)⟩
      · exact op_mul pins s σ H _ _ v u Q I rx ry ⟨_, _, rfl, rfl, .inl (of_decide_eq_true hz), q _ _ _ Ext.refl rh (.int _)⟩
      · exact op_mul pins s σ H _ _ v u Q I rx ry ⟨_, _, rfl, rfl, .inr (of_decide_eq_true hz), q _ _ _ Ext.refl rh (.int _)⟩
    · cases e
  · rename_i xs0 j
    split at e
    · rename_i hz; cases e
      obtain ⟨z1, z2, z3, z4⟩ := hz
      cases r2
      obtain ⟨p, ws, rfl, hq, z, rr⟩ := r1.tup_inv
      have hl := rr.length
      refine PVX.op_times pins s σ H _ _ v u Q I rx ry ⟨p, _, ws, rfl, rfl, hq, fun w => z1 (List.eq_nil_of_length_eq_zero (by rw [hl, w]; rfl)), z2, z3, by rw [← hl]; exact z4, fun p np =>
          q _ _ _ (Ext.laid np) (rh.laid np) (RD.newTup rh np (rr.replicate _) ?_)⟩
      have e1 : (List.replicate j.toNat ws).flatten.length = j.toNat * ws.length := by rw [List.length_flatten]; simp
      rw [e1, ← hl, sizeLine_eq]; omega
    · cases e
  · split at e
    · rename_i e1
      split at e
      · rename_i hz
        cases e
        obtain ⟨a, vs, rfl, ha, za, ra⟩ := own_inv rh e1 r1
        cases r2
        obtain ⟨h0, h1, h2⟩ := hz
        have hlen := size_of h2
        rw [ra.length] at hlen
        refine op_rep pins s σ H _ _ v u Q I rx ry ⟨a, _, vs, rfl, rfl, ha, by omega, by omega, hlen, fun p np =>
          q _ _ _ (Ext.laid np) (rh.laid np) (RD.newLst rh np (ra.replicate _) ?_)⟩
        rw [List.length_flatten]; simp; rw [Nat.mul_comm]; exact hlen
      · cases e
    · cases e
  · cases e
theorem ops_fdiv : OpR X (binaryOp .FloorDiv) (rOp X.K (opBin .fdiv)) := by
  intro pins s σ H x y v u Q I rx ry ⟨J, h, dx, dy, d, rh, r1, r2, e, q⟩
  simp only [opBin] at e
  split at e
  · cases r1; cases r2
    split at e
    · rename_i hz; cases e
      exact op_fdivW pins s σ H _ _ v u Q I rx ry ⟨_, _, rfl, rfl, hz, q _ _ _ Ext.refl rh (.int _)⟩
    · cases e
  · cases e
theorem ops_mod : OpR X (binaryOp .Mod) (rOp X.K (opBin .mod)) := by
  intro pins s σ H x y v u Q I rx ry ⟨J, h, dx, dy, d, rh, r1, r2, e, q⟩
  simp only [opBin] at e
  split at e
  · cases r1; cases r2
    split at e
    · rename_i hz; cases e
      exact op_mod pins s σ H _ _ v u Q I rx ry ⟨_, _, rfl, rfl, hz, q _ _ _ Ext.refl rh (.int _)⟩
    · cases e
  · cases e
theorem ops_pow : OpR X (binaryOp .Pow) (rOp X.K (opBin .pow)) := by
  intro pins s σ H x y v u Q I rx ry ⟨J, h, dx, dy, d, rh, r1, r2, e, q⟩
  simp only [opBin] at e
  split at e
  · cases r1; cases r2
    split at e
    · rename_i hz; cases e
      simp only [powOk, Bool.and_eq_true, decide_eq_true_eq] at hz
      exact op_pow pins s σ H _ _ v u Q I rx ry ⟨_, _, rfl, rfl, ⟨hz.1.1, hz.1.2, hz.2⟩, q _ _ _ Ext.refl rh (.int _)⟩
    · cases e
  · cases e

/-! ### comparisons -/
theorem dec_strD {a b : Str} : decide (V.str a = V.str b) = decide (a = b) := decide_eq_decide.mpr ⟨V.str.inj, fun z => by rw [z]⟩
theorem ops_eq (hu : X.A.units + 64 < cLine) : OpR X (compareOp .Eq) (rCmp X.K (opCmp .eq)) := by
  intro pins s σ H x y v u Q I rx ry ⟨J, h, dx, dy, d, rh, r1, r2, e, q⟩
  simp only [opCmp] at e
  unfold opEq at e
  split at e
  · cases r1; cases r2; cases e
    exact op_eq pins s σ H _ _ v u Q I rx ry ⟨rfl, by rw [dec_strD]; exact q⟩
  · split at e
    · rename_i hz; cases e
      obtain ⟨l1, l2, lm⟩ := cok_inv hz
      obtain ⟨as, q1⟩ := Dp.reads I _ x v (res_dp rh l1 r1) rx
      obtain ⟨bs, q2⟩ := Dp.reads I _ y u (res_dp rh l2 r2) ry
      exact SeqAt.compareEq_reads q1 q2 (lay_py _ l1) (lay_py _ l2) (by rw [dep_py _ l1, dep_py _ l2]; omega) ⟨.bl _, H, I, rfl, by rw [eqv_py _ _ l1 l2]; exact q⟩
    · cases e
theorem ops_deq (hu : X.A.units + 64 < cLine) : OpR X (compareOp .Eq) (rCmp X.K (opCmp .deq)) := by
  intro pins s σ H x y v u Q I rx ry ⟨J, h, dx, dy, d, rh, r1, r2, e, q⟩
  simp only [opCmp, opDeq] at e
  split at e
  · rename_i hz; cases e
    obtain ⟨l1, l2, lm⟩ := cok_inv hz
    obtain ⟨as, q1⟩ := Dp.reads I _ x v (all_dp rh 3 _ _ l1 r1) rx
    obtain ⟨bs, q2⟩ := Dp.reads I _ y u (all_dp rh 3 _ _ l2 r2) ry
    exact SeqAt.compareEq_reads q1 q2 (lay_py _ l1) (lay_py _ l2) (by rw [dep_py _ l1, dep_py _ l2]; omega) ⟨.bl _, H, I, rfl, by rw [eqv_py _ _ l1 l2]; exact q⟩
  · cases e
theorem ops_ne (hu : X.A.units + 64 < cLine) : OpR X (compareOp .NotEq) (rCmp X.K (opCmp .ne)) := by
  intro pins s σ H x y v u Q I rx ry ⟨J, h, dx, dy, d, rh, r1, r2, e, q⟩
  simp only [opCmp, Option.map_eq_some_iff] at e
  obtain ⟨d, e, rfl⟩ := e
  unfold opEq at e
  split at e
  · cases r1; cases r2; cases e
    exact op_ne pins s σ H _ _ v u Q I rx ry ⟨rfl, by rw [dec_strD]; exact q⟩
  · split at e
    · rename_i hz; cases e
      obtain ⟨l1, l2, lm⟩ := cok_inv hz
      obtain ⟨as, q1⟩ := Dp.reads I _ x v (res_dp rh l1 r1) rx
      obtain ⟨bs, q2⟩ := Dp.reads I _ y u (res_dp rh l2 r2) ry
      exact SeqAt.compareNe_reads q1 q2 (lay_py _ l1) (lay_py _ l2) (by rw [dep_py _ l1, dep_py _ l2]; omega) ⟨.bl _, H, I, rfl, by rw [eqv_py _ _ l1 l2]; exact q⟩
    · cases e
theorem ops_lt : OpR X (compareOp .Lt) (rCmp X.K (opCmp .lt)) := by
  intro pins s σ H x y v u Q I rx ry ⟨J, h, dx, dy, d, rh, r1, r2, e, q⟩
  simp only [opCmp] at e
  split at e
  · cases r1; cases r2; cases e
    exact op_lt pins s σ H _ _ v u Q I rx ry ⟨_, _, rfl, rfl, q⟩
  · cases e
theorem ops_le : OpR X (compareOp .LtE) (rCmp X.K (opCmp .le)) := by
  intro pins s σ H x y v u Q I rx ry ⟨J, h, dx, dy, d, rh, r1, r2, e, q⟩
  simp only [opCmp] at e
  split at e
  · cases r1; cases r2; cases e
    exact op_le pins s σ H _ _ v u Q I rx ry ⟨_, _, rfl, rfl, q⟩
  · cases e
theorem ops_gt : OpR X (compareOp .Gt) (rCmp X.K (opCmp .gt)) := by
  intro pins s σ H x y v u Q I rx ry ⟨J, h, dx, dy, d, rh, r1, r2, e, q⟩
  simp only [opCmp] at e
  split at e
  · cases r1; cases r2; cases e
    exact op_gt pins s σ H _ _ v u Q I rx ry ⟨_, _, rfl, rfl, q⟩
  · cases e
theorem ops_ge : OpR X (compareOp .GtE) (rCmp X.K (opCmp .ge)) := by
  intro pins s σ H x y v u Q I rx ry ⟨J, h, dx, dy, d, rh, r1, r2, e, q⟩
  simp only [opCmp] at e
  split at e
  · cases r1; cases r2; cases e
    exact op_ge pins s σ H _ _ v u Q I rx ry ⟨_, _, rfl, rfl, q⟩
  · cases e
theorem is_blD {K : PySem.W.Frag} {J : Jn} {H : Hp} {d : D} {x : V} {v : Value} {b : Bool} {M : Model} {A : Around} {E : Value → Shared → Prop} {s : Shared} {Q : Value → Shared → Prop} (r : RD K J H d x) (rx : L2.RelV x v) (h : Q (.bool (d.eqBl b)) s) :
    wpAny M A (compareOp .Is v (.bool b)) Q E s := by
  cases r with
  | non => cases (show v = Value.none from rx); exact wpAny_pure h
  | bl a => cases (show v = Value.bool a from rx); exact is_bool h
  | int i => obtain ⟨t, rfl⟩ := (show ∃ t, v = Value.int i t from rx); exact wpAny_pure h
  | str i => obtain ⟨t, rfl⟩ := (show ∃ t, v = Value.str i t from rx); exact wpAny_pure h
  | tup n m q z r => cases (show v = Value.ref _ from rx); exact wpAny_pure h
  | ktup k z r => cases (show v = Value.ref _ from rx); exact wpAny_pure h
  | lst n m q z r => cases (show v = Value.ref _ from rx); exact wpAny_pure h
  | ref q => cases (show v = Value.ref _ from rx); exact wpAny_pure h
  | fz n m q z r => cases (show v = Value.ref _ from rx); exact wpAny_pure h
  | kfz k z r => cases (show v = Value.ref _ from rx); exact wpAny_pure h
  | ft n m q c d z r => cases (show v = Value.ref _ from rx); exact wpAny_pure h
  | exc n m q => cases (show v = Value.ref _ from rx); exact wpAny_pure h
  | exf n m q n2 m2 q2 r => cases (show v = Value.ref _ from rx); exact wpAny_pure h
theorem isn_blD {K : PySem.W.Frag} {J : Jn} {H : Hp} {d : D} {x : V} {v : Value} {b : Bool} {M : Model} {A : Around} {E : Value → Shared → Prop} {s : Shared} {Q : Value → Shared → Prop} (r : RD K J H d x) (rx : L2.RelV x v) (h : Q (.bool (!d.eqBl b)) s) :
    wpAny M A (compareOp .IsNot v (.bool b)) Q E s := by
  cases r with
  | non => cases (show v = Value.none from rx); exact wpAny_pure h
  | bl a => cases (show v = Value.bool a from rx); cases a <;> cases b <;> exact wpAny_pure h
  | int i => obtain ⟨t, rfl⟩ := (show ∃ t, v = Value.int i t from rx); exact wpAny_pure h
  | str i => obtain ⟨t, rfl⟩ := (show ∃ t, v = Value.str i t from rx); exact wpAny_pure h
  | tup n m q z r => cases (show v = Value.ref _ from rx); exact wpAny_pure h
  | ktup k z r => cases (show v = Value.ref _ from rx); exact wpAny_pure h
  | lst n m q z r => cases (show v = Value.ref _ from rx); exact wpAny_pure h
  | ref q => cases (show v = Value.ref _ from rx); exact wpAny_pure h
  | fz n m q z r => cases (show v = Value.ref _ from rx); exact wpAny_pure h
  | kfz k z r => cases (show v = Value.ref _ from rx); exact wpAny_pure h
  | ft n m q c d z r => cases (show v = Value.ref _ from rx); exact wpAny_pure h
  | exc n m q => cases (show v = Value.ref _ from rx); exact wpAny_pure h
  | exf n m q n2 m2 q2 r => cases (show v = Value.ref _ from rx); exact wpAny_pure h
theorem is_nonD {K : PySem.W.Frag} {J : Jn} {H : Hp} {d : D} {x : V} (r : RD K J H d x) : decide (x = .non) = d.isNon := by
  cases r <;> first | rfl | (exact decide_eq_false (fun z => by cases z))
theorem ops_is : OpR X (compareOp .Is) (rCmp X.K (opCmp .is)) := by
  intro pins s σ H x y v u Q I rx ry ⟨J, h, dx, dy, d, rh, r1, r2, e, q⟩
  simp only [opCmp] at e
  split at e
  · cases r2; cases e
    exact op_isN pins s σ H _ _ v u Q I rx ry ⟨rfl, by rw [is_nonD r1]; exact q⟩
  · cases r2; cases e
    cases (show u = Value.bool _ from ry)
    exact is_blD r1 rx ⟨.bl _, H, I, rfl, q⟩
  · cases e
theorem ops_isn : OpR X (compareOp .IsNot) (rCmp X.K (opCmp .isn)) := by
  intro pins s σ H x y v u Q I rx ry ⟨J, h, dx, dy, d, rh, r1, r2, e, q⟩
  simp only [opCmp] at e
  split at e
  · cases r2; cases e
    exact op_notN pins s σ H _ _ v u Q I rx ry ⟨rfl, by rw [is_nonD r1]; exact q⟩
  · cases r2; cases e
    cases (show u = Value.bool _ from ry)
    exact isn_blD r1 rx ⟨.bl _, H, I, rfl, q⟩
  · cases e
end
end PV
end

section
set_option maxRecDepth 100000
namespace PV
open L2 PySem PySem.Spec PyProof.Rows

section
variable {K : PySem.W.Frag} {J J' : Jn} {H H' : Hp} {h h' : Hh} {d : D} {v : V} {ds : List D} {vs : List V}
/-! ### dicts -/
theorem valD_rel {kvs : List (Key × D)} {kws : List (Key × V)} (r : Paired (fun p q => p.1 = q.1 ∧ RD K J H p.2 q.2) kvs kws) (k : Key) :
    (valD kvs k = none ∧ valV kws k = none) ∨ ∃ d v, valD kvs k = some d ∧ valV kws k = some v ∧ RD K J H d v := by
  induction r with
  | nil => exact (.inl ⟨rfl, rfl⟩)
  | @cons p q ps qs x t ih =>
    by_cases e : p.1 = k
    · refine .inr ⟨p.2, q.2, ?_, ?_, x.2⟩
      · simp [valD, List.find?_cons, e]
      · exact valV_pos (x.1 ▸ e)
    · have e2 : ¬ q.1 = k := by rw [← x.1]; exact e
      rw [valV_neg e2, show valD (p :: ps) k = valD ps k by simp [valD, List.find?_cons, e]]
      exact ih
theorem key_inv {k : Key} (e : d.key = some k) (r : RD K J H d v) : v = kV k := by
  cases d with
  | int i => cases e; cases r; rfl
  | str x => cases e; cases r; rfl
  | _ => cases e
theorem any_py {x : D} : ∀ {ys : List D}, D.lays ys = true → x.lay = true → ((D.pys ys).any fun z => PyData.eqv z x.py) = ys.any fun y => y.eqv x
  | [], _, _ => rfl
  | y :: ys, h, hx => by
    simp only [D.lays, Bool.and_eq_true] at h
    simp only [D.pys, List.any_cons, eqv_py y x h.1 hx, any_py h.2 hx]
end
section
variable {X : Cx}
theorem ops_inCore (hu : X.A.units + 65 < cLine) {pins : List (Addr × Obj)} {s : Shared} {σ : L2.St} {H : Hp} {x y : V} {v u : Value} {b : Bool} {J : Jn} {h : Hh} {dx dy : D} (I : Inv X pins σ H s) (rx : L2.RelV x v) (ry : L2.RelV y u)
    (rh : RH X.K J h H) (r1 : RD X.K J H dx x) (r2 : RD X.K J H dy y) (e : opIn h dx dy = some b) :
    (∀ Q : VK, Q (.bl b) H → wpAny (model X.prog X.w) X.A (compareOp .In v u) (EP X pins σ Q) X.xe s) ∧
    (∀ Q : VK, Q (.bl (!b)) H → wpAny (model X.prog X.w) X.A (compareOp .NotIn v u) (EP X pins σ Q) X.xe s) := by
  have lists : ∀ (p : Addr) (ws : List V) (ys : List D), y = .ref p → SqL X.K H p ws → RDs X.K J H ys ws → (if dx.shp && (D.lst ys).shp then some (ys.any fun z => z.eqv dx) else none) = some b →
      (∀ Q : VK, Q (.bl b) H → wpAny (model X.prog X.w) X.A (compareOp .In v u) (EP X pins σ Q) X.xe s) ∧
      (∀ Q : VK, Q (.bl (!b)) H → wpAny (model X.prog X.w) X.A (compareOp .NotIn v u) (EP X pins σ Q) X.xe s) := by
    intro p ws ys ey hq rr e
    split at e
    · rename_i hz; cases e
      rw [Bool.and_eq_true] at hz
      have l1 := shp_lay hz.1
      have l2 : D.lays ys = true := by have := shp_lay hz.2; simpa only [D.lay] using this
      have sp : SeqAt.shaped (.list (D.pys ys)) = true := by have := shp_py hz.2; simpa only [D.py] using this
      have dl : Dp X.K H y (.list (D.pys ys)) := by rw [ey]; exact .lst hq (RDs.dp ys ws l2 rr)
      constructor
      · intro Q q
        exact op_inD hu pins s σ H x y v u Q I rx ry ⟨dx.py, D.pys ys, RD.dp dx x l1 r1, dl, shp_py hz.1, sp, by rw [any_py l2 l1]; exact q⟩
      · intro Q q
        exact op_notInD hu pins s σ H x y v u Q I rx ry ⟨dx.py, D.pys ys, RD.dp dx x l1 r1, dl, shp_py hz.1, sp, by rw [any_py l2 l1]; exact q⟩
    · cases e
  unfold opIn at e
  split at e
  · split at e
    · rename_i i ys hys
      cases r2 with
      | ref q =>
        obtain ⟨o, w, h1, h2, h3⟩ := rh.at q
        rw [hys] at h1; cases h1
        cases h3 with
        | lst z r => exact lists _ _ _ rfl (.inl (.inl h2)) r e
    · rename_i i kvs hys
      cases r2 with
      | ref q =>
        obtain ⟨o, w, h1, h2, h3⟩ := rh.at q
        rw [hys] at h1; cases h1
        cases h3 with
        | @dct _ kws z r =>
          split at e
          · rename_i k hk; cases e
            obtain rfl := key_inv hk r1
            cases (show u = Value.ref _ from ry)
            have g := DGet.k (k := k) h2
            have eb : (valV kws k).isSome = hasKey k kvs := by
              unfold hasKey
              rcases valD_rel r k with ⟨a, b⟩ | ⟨d, v, a, b, _⟩ <;> rw [a, b] <;> rfl
            rw [← eb]
            exact ⟨fun Q q => d_in (by omega) I g rx fun s' I' => ⟨.bl _, H, I', rfl, q⟩, fun Q q => d_notIn (by omega) I g rx fun s' I' => ⟨.bl _, H, I', rfl, q⟩⟩
          · cases e
    · cases e
  · cases r2 with
    | lst n m q z r => exact lists _ _ _ rfl (.inl (.inl q)) r e
  · obtain ⟨p, ws, ey, hq, z, rr⟩ := r2.tup_inv
    split at e
    · rename_i ys hz; cases e
      rw [Bool.and_eq_true] at hz
      have l1 := shp_lay hz.1
      have l2 : D.lays ys = true := by have := shp_lay hz.2; simpa only [D.lay] using this
      have sp : SeqAt.shaped (.tuple (D.pys ys)) = true := by have := shp_py hz.2; simpa only [D.py] using this
      have dl : Dp X.K H y (.tuple (D.pys ys)) := by rw [ey]; exact .tup hq (RDs.dp ys ws l2 rr)
      obtain ⟨as, q1⟩ := Dp.reads I dx.py x v (RD.dp dx x l1 r1) rx
      obtain ⟨bs, q2⟩ := Dp.reads I (.tuple (D.pys ys)) y u dl ry
      have ll : PyData.canLayAll0 (D.pys ys) = true := lays_pys ys l2
      constructor
      · intro Q q
        exact SeqAt.in_tuple_reads q2 q1 ll (lay_py dx l1) (room_in_shaped (shp_py hz.1) hu) ⟨.bl _, H, I, rfl, by rw [any_py l2 l1]; exact q⟩
      · intro Q q
        exact SeqAt.notIn_tuple_reads q2 q1 ll (lay_py dx l1) (room_in_shaped (shp_py hz.1) hu) ⟨.bl _, H, I, rfl, by rw [any_py l2 l1]; exact q⟩
    · cases e
  · obtain ⟨p, ws, ey, hq, z, rr⟩ := r2.ft_inv
    split at e
    · rename_i ys hz; cases e
      rw [Bool.and_eq_true] at hz
      have l1 := shp_lay hz.1
      have l2 : D.lays ys = true := by have := shp_lay hz.2; simpa only [D.lay] using this
      have sp : SeqAt.shaped (.tuple (D.pys ys)) = true := by have := shp_py hz.2; simpa only [D.py] using this
      have dl : Dp X.K H y (.tuple (D.pys ys)) := by rw [ey]; exact .tup hq (RDs.dp ys ws l2 rr)
      obtain ⟨as, q1⟩ := Dp.reads I dx.py x v (RD.dp dx x l1 r1) rx
      obtain ⟨bs, q2⟩ := Dp.reads I (.tuple (D.pys ys)) y u dl ry
      have ll : PyData.canLayAll0 (D.pys ys) = true := lays_pys ys l2
      constructor
      · intro Q q
        exact SeqAt.in_tuple_reads q2 q1 ll (lay_py dx l1) (room_in_shaped (shp_py hz.1) hu) ⟨.bl _, H, I, rfl, by rw [any_py l2 l1]; exact q⟩
      · intro Q q
        exact SeqAt.notIn_tuple_reads q2 q1 ll (lay_py dx l1) (room_in_shaped (shp_py hz.1) hu) ⟨.bl _, H, I, rfl, by rw [any_py l2 l1]; exact q⟩
    · cases e
  · cases e
theorem ops_in (hu : X.A.units + 65 < cLine) : OpR X (compareOp .In) (rCmp X.K (opCmp .inn)) := by
  intro pins s σ H x y v u Q I rx ry ⟨J, h, dx, dy, d, rh, r1, r2, e, q⟩
  exact (ops_inCore hu I rx ry rh r1 r2 e).1 Q q
theorem ops_nin (hu : X.A.units + 65 < cLine) : OpR X (compareOp .NotIn) (rCmp X.K (opCmp .nin)) := by
  intro pins s σ H x y v u Q I rx ry ⟨J, h, dx, dy, d, rh, r1, r2, e, q⟩
  simp only [opCmp, Option.map_eq_some_iff] at e
  obtain ⟨d, e, rfl⟩ := e
  exact (ops_inCore hu I rx ry rh r1 r2 e).2 Q q

/-! ### subscripts, slices -/
theorem atI_rel {K : PySem.W.Frag} {J : Jn} {H : Hp} {ds : List D} {vs : List V} {i : Int} {d : D} (r : RDs K J H ds vs) (e : atI ds i = some d) : ∃ v, atI vs i = some v ∧ RD K J H d v := by
  unfold atI at e ⊢
  rw [r.length] at e
  cases q : ixN vs.length i with
  | none => (rw [q] at e; cases e)
  | some j => rw [q] at e; exact r.get e
theorem ix_all (hu : X.A.units + 1 < cLine) : IxR X (rOp X.K opIdx) := by
  intro value slice pins s σ H x y v u Q I rx ry ⟨J, h, dx, dy, d, rh, r1, r2, e, q⟩ hs
  have lists : ∀ (p : Addr) (ws : List V) (ys : List D) (i : Int), x = .ref p → y = .int i → SqL X.K H p ws → RDs X.K J H ys ws → atI ys i = some d →
      wpAny (model X.prog X.w) X.A (subscriptTail value slice v u) (EP X pins σ Q) X.xe s := by
    intro p ws ys i ex ey hq rr e
    obtain ⟨w, hw, rw'⟩ := atI_rel rr e
    exact ix_list value slice pins s σ H x y v u Q I rx ry ⟨p, ws, i, w, ex, ey, hq, hw, q _ _ _ Ext.refl rh rw'⟩ hs
  unfold opIdx at e
  split at e
  · cases r2
    obtain ⟨p, ws, ex, hq, z, rr⟩ := r1.tup_inv
    obtain ⟨w, hw, rw'⟩ := atI_rel rr e
    exact ix_tup value slice pins s σ H x _ v u Q I rx ry ⟨p, ws, _, w, ex, rfl, hq, hw, q _ _ _ Ext.refl rh rw'⟩ hs
  · cases r2
    cases r1 with
    | lst n m q1 z r => exact lists _ _ _ _ rfl rfl (.inl (.inl q1)) r e
  · cases r2
    cases r1 with
    | fz n m q1 z r => exact lists _ _ _ _ rfl rfl (.inl (.inr ⟨_, q1⟩)) r e
    | kfz k z r => exact lists _ _ _ _ rfl rfl (.inr k) r e
  · split at e
    · rename_i xs i hxs
      cases r2
      cases r1 with
      | ref q1 =>
        obtain ⟨o, w, h1, h2, h3⟩ := rh.at q1
        rw [hxs] at h1; cases h1
        cases h3 with
        | lst z r => exact lists _ _ _ _ rfl rfl (.inl (.inl h2)) r e
    · rename_i kvs yy hxs
      cases r1 with
      | ref q1 =>
        obtain ⟨o, w, h1, h2, h3⟩ := rh.at q1
        rw [hxs] at h1; cases h1
        cases h3 with
        | @dct _ kws z r =>
          split at e
          · rename_i k hk
            obtain rfl := key_inv hk r2
            rcases valD_rel r k with ⟨a, b⟩ | ⟨d', v', a, b, c⟩
            · rw [a] at e; cases e
            · rw [a] at e; cases e
              cases (show v = Value.ref _ from rx)
              have g := DGet.k (k := k) h2
              rw [b] at g
              exact tail_any (dict_typeIs I g) PySem.F.slot_dict_getitem.lookup (d_getItem hu I g ry fun w' s3 I3 rw' => ⟨v', H, I3, rw', q _ _ _ Ext.refl rh c⟩) hs
          · cases e
    · cases e
  · cases e
def rSl (K : PySem.W.Frag) : V → Option Int → Option Int → Hp → VK → Prop := fun x lo hi H Q => ∃ J h dx d, RH K J h H ∧ RD K J H dx x ∧ opSlc h dx lo hi = some d ∧ ∀ J' H' v, Ext J H J' H' → RH K J' h H' → RD K J' H' d v → Q v H'
theorem cutD_rel {K : PySem.W.Frag} {J : Jn} {H : Hp} {ds : List D} {vs : List V} {lo hi : Option Int} (r : RDs K J H ds vs) : RDs K J H (cutD ds lo hi) (cutV vs lo hi) := by
  unfold cutD cutV
  rw [r.length]
  exact (r.drop _).take _
theorem cutD_whole {ds : List D} {lo hi : Option Int} (e : HT.sIx ds.length 0 lo = 0 ∧ HT.sIx ds.length ds.length hi = ds.length) : cutD ds lo hi = ds := by
  unfold cutD
  rw [e.1, e.2]; simp
theorem sl_all : SlR X (rSl X.K) := by
  intro pins s σ H x v vl vu lo hi sl Q I rx hs pl pu ⟨J, h, dx, d, rh, r1, e, q⟩
  unfold opSlc at e
  split at e
  · cases e
    obtain ⟨p, ws, ex, hq, z, rr⟩ := r1.tup_inv
    refine sl_tupA pins s σ H x v vl vu lo hi sl Q I rx hs pl pu ⟨p, ws, ex, hq, fun hw => ?_, fun _ p' np => ?_⟩
    · refine q _ _ _ Ext.refl rh ?_
      rw [cutD_whole (by rw [rr.length]; exact hw), ← ex]; exact r1
    · exact q _ _ _ (Ext.laid np) (rh.laid np) (RD.newTup rh np (cutD_rel rr) (Nat.le_trans (cutV_length _ _ _) z))
  · split at e
    · rename_i xs e2
      cases e
      obtain ⟨p, ws, ex, hq, z, rr⟩ := res_inv rh e2 r1
      exact sl_list pins s σ H x v vl vu lo hi sl Q I rx hs pl pu ⟨p, ws, ex, hq, fun p' np =>
        q _ _ _ (Ext.laid np) (rh.laid np) (RD.newLst rh np (cutD_rel rr) (Nat.le_trans (cutV_length _ _ _) z))⟩
    · cases e

/-! ### built-in functions -/
def rBf (K : PySem.W.Frag) (f : Hh → List D → Option D) : List V → Hp → VK → Prop := fun xs H Q => ∃ J h ds d, RH K J h H ∧ RDs K J H ds xs ∧ f h ds = some d ∧ ∀ J' H' v, Ext J H J' H' → RH K J' h H' → RD K J' H' d v → Q v H'
theorem one_inv {K : PySem.W.Frag} {J : Jn} {H : Hp} {d : D} {vs : List V} (r : RDs K J H [d] vs) : ∃ v, vs = [v] ∧ RD K J H d v := by
  cases r with | cons a b => cases b; exact ⟨_, rfl, a⟩
theorem two_inv {K : PySem.W.Frag} {J : Jn} {H : Hp} {d e : D} {vs : List V} (r : RDs K J H [d, e] vs) : ∃ v w, vs = [v, w] ∧ RD K J H d v ∧ RD K J H e w := by
  cases r with | cons a b => cases b with | cons b c => cases c; exact ⟨_, _, rfl, a, b⟩
theorem bf_len : CallR X (.builtin "len") (rBf X.K (opBf .len)) := by
  intro pins s σ H xs us Q I r ⟨J, h, ds, d, rh, rs, e0, q⟩
  have seqs : ∀ (p : Addr) (ws : List V) (n : Nat), xs = [.ref p] → (SqL X.K H p ws ∨ SqT X.K H p ws) → ws.length = n → d = .int n → wpAny (model X.prog X.w) X.A (call (.builtin "len") us) (EP X pins σ Q) X.xe s := by
    intro p ws n ex hq en ed
    exact call_len_seq pins s σ H xs us Q I r ⟨p, ws, ex, hq, by rw [en]; exact q _ _ _ Ext.refl rh (by rw [ed]; exact .int _)⟩
  have e : bfLen h ds = some d := e0
  clear e0
  unfold bfLen at e
  split at e
  · cases e
    obtain ⟨w, rfl, r1⟩ := one_inv rs
    obtain ⟨p, ws, ex, hq, z, rr⟩ := r1.tup_inv
    exact seqs p ws _ (by rw [ex]) (.inr hq) rr.length.symm rfl
  · cases e
    obtain ⟨w, rfl, r1⟩ := one_inv rs
    cases r1 with
    | lst n m q1 z rr => exact seqs _ _ _ rfl (.inl (.inl (.inl q1))) rr.length.symm rfl
  · cases e
    obtain ⟨w, rfl, r1⟩ := one_inv rs
    cases r1 with
    | fz n m q1 z rr => exact seqs _ _ _ rfl (.inl (.inl (.inr ⟨_, q1⟩))) rr.length.symm rfl
    | kfz k z rr => exact seqs _ _ _ rfl (.inl (.inr k)) rr.length.symm rfl
  · cases e
    obtain ⟨w, rfl, r1⟩ := one_inv rs
    cases r1 with
    | ft n m q1 c d z rr => exact seqs _ _ _ rfl (.inr (.inl (.inr ⟨_, q1⟩))) rr.length.symm rfl
  · obtain ⟨w, rfl, r1⟩ := one_inv rs
    split at e
    · rename_i hz; cases e; cases r1
      exact call_len_str pins s σ H _ us Q I r ⟨_, rfl, hz, q _ _ _ Ext.refl rh (.int _)⟩
    · cases e
  · obtain ⟨w, rfl, r1⟩ := one_inv rs
    cases r1 with
    | ref q1 =>
      obtain ⟨o, w, h1, h2, h3⟩ := rh.at q1
      rw [h1] at e
      cases h3 with
      | lst z rr => cases e; exact seqs _ _ _ rfl (.inl (.inl (.inl h2))) rr.length.symm rfl
      | dct z rr =>
        cases e
        refine call_lenD pins s σ H _ us Q I r ⟨_, _, rfl, h2, ?_⟩
        rw [← Paired.length rr]
        exact q _ _ _ Ext.refl rh (.int _)
  · cases e
theorem bf_int : CallR X (.type "int") (rBf X.K (opBf .int)) := by
  intro pins s σ H xs us Q I r ⟨J, h, ds, d, rh, rs, e0, q⟩
  have e : bfInt ds = some d := e0
  clear e0
  unfold bfInt at e
  split at e
  · cases e
    obtain ⟨w, rfl, r1⟩ := one_inv rs; cases r1
    exact call_int1 pins s σ H _ us Q I r (.inl ⟨_, rfl, q _ _ _ Ext.refl rh (.int _)⟩)
  · cases e
    obtain ⟨w, rfl, r1⟩ := one_inv rs; cases r1
    exact call_int1 pins s σ H _ us Q I r (.inr ⟨_, rfl, q _ _ _ Ext.refl rh (.int _)⟩)
  · cases e
theorem bf_abs : CallR X (.builtin "abs") (rBf X.K (opBf .abs)) := by
  intro pins s σ H xs us Q I r ⟨J, h, ds, d, rh, rs, e0, q⟩
  have e : bfAbs ds = some d := e0
  clear e0
  unfold bfAbs at e
  split at e
  · cases e
    obtain ⟨w, rfl, r1⟩ := one_inv rs; cases r1
    exact call_abs pins s σ H _ us Q I r ⟨_, rfl, q _ _ _ Ext.refl rh (.int _)⟩
  · cases e
theorem seq_cases {K : PySem.W.Frag} {J : Jn} {H : Hp} {h : Hh} {d : D} {ds : List D} {v : V} (rh : RH K J h H) (hf : ∀ ys, d ≠ .ftup ys) (e : d.seq h = some ds) (r : RD K J H d v) :
    d = .tup ds ∨ ∃ a vs, v = .ref a ∧ SqL K H a vs ∧ vs.length ≤ sizeLine ∧ RDs K J H ds vs := by
  cases d with
  | ftup xs => exact (hf xs rfl).elim
  | tup xs => cases e; exact .inl rfl
  | lst xs => exact .inr (res_inv rh (by cases e; rfl) r)
  | fz xs => exact .inr (res_inv rh (by cases e; rfl) r)
  | ref i => exact .inr (res_inv rh (by
      simp only [D.seq] at e
      split at e
      · rename_i q; cases e; simp only [D.res, q]
      · cases e) r)
  | _ => cases e
theorem bf_tuple : CallR X (.type "tuple") (rBf X.K (opBf .tuple)) := by
  intro pins s σ H xs us Q I r ⟨J, h, ds, d, rh, rs, e0, q⟩
  have e : bfTuple h ds = some d := e0
  clear e0
  unfold bfTuple at e
  split at e
  · cases e
  · rename_i x0 hx0
    obtain ⟨w, rfl, r1⟩ := one_inv rs
    simp only [Option.map_eq_some_iff] at e
    obtain ⟨ys, e1, rfl⟩ := e
    rcases seq_cases rh (fun ys z => hx0 ys (by rw [z])) e1 r1 with rfl | ⟨p, ws, rfl, hq, z, rr⟩
    · obtain ⟨p, ws, rfl, hq, z, rr⟩ := r1.tup_inv
      exact call_tuple_of pins s σ H _ us Q I r ⟨p, ws, rfl, .inr ⟨hq, q _ _ _ Ext.refl rh r1⟩⟩
    · exact call_tuple_of pins s σ H _ us Q I r ⟨p, ws, rfl, .inl ⟨hq, fun l nl => q _ _ _ (Ext.laid nl) (rh.laid nl) (RD.newTup rh nl rr z)⟩⟩
  · cases e
theorem bf_max (hc : X.calm = true) : CallR X (.builtin "max") (rBf X.K (opBf .max2)) := by
  intro pins s σ H xs us Q I r ⟨J, h, ds, d, rh, rs, e0, q⟩
  have e : bfMax ds = some d := e0
  clear e0
  unfold bfMax at e
  split at e
  · cases e
    obtain ⟨w, w2, rfl, r1, r2⟩ := two_inv rs; cases r1; cases r2
    exact call_max2 hc pins s σ H _ us Q I r ⟨_, _, rfl, q _ _ _ Ext.refl rh (.int _)⟩
  · cases e
theorem bf_min (hc : X.calm = true) : CallR X (.builtin "min") (rBf X.K (opBf .min2)) := by
  intro pins s σ H xs us Q I r ⟨J, h, ds, d, rh, rs, e0, q⟩
  have e : bfMin ds = some d := e0
  clear e0
  unfold bfMin at e
  split at e
  · cases e
    obtain ⟨w, w2, rfl, r1, r2⟩ := two_inv rs; cases r1; cases r2
    exact call_min2 hc pins s σ H _ us Q I r ⟨_, _, rfl, q _ _ _ Ext.refl rh (.int _)⟩
  · cases e
theorem ints_rel {K : PySem.W.Frag} {J : Jn} {H : Hp} : ∀ {ds : List D} {vs : List V} {ns : List Int}, RDs K J H ds vs → D.ints ds = some ns → vs = ns.map V.int
  | _, _, _, .nil, e => by cases e; rfl
  | _, _, _, .cons r t, e => by
    cases r <;> simp only [D.ints] at e <;> try (cases e; done)
    simp only [Option.map_eq_some_iff] at e
    obtain ⟨ms, e, rfl⟩ := e
    rw [ints_rel t e]; rfl
theorem bls_rel {K : PySem.W.Frag} {J : Jn} {H : Hp} : ∀ {ds : List D} {vs : List V} {ns : List Bool}, RDs K J H ds vs → D.bls ds = some ns → vs = ns.map V.bl
  | _, _, _, .nil, e => by cases e; rfl
  | _, _, _, .cons r t, e => by
    cases r <;> simp only [D.bls] at e <;> try (cases e; done)
    simp only [Option.map_eq_some_iff] at e
    obtain ⟨ms, e, rfl⟩ := e
    rw [bls_rel t e]; rfl
theorem lstOf_inv {d : D} {ds : List D} (e : d.lstOf = some ds) : d = .lst ds := by
  cases d <;> cases e; rfl
theorem bf_sum (hc : X.calm = true) : CallR X (.builtin "sum") (rBf X.K (opBf .sum)) := by
  intro pins s σ H xs us Q I r ⟨J, h, ds, d, rh, rs, e0, q⟩
  have e : bfSum h ds = some d := e0
  clear e0
  unfold bfSum at e
  split at e
  · obtain ⟨w, rfl, r1⟩ := one_inv rs
    simp only [Option.map_eq_some_iff, Option.bind_eq_some_iff] at e
    obtain ⟨ns, ⟨ys, e1, e2⟩, rfl⟩ := e
    obtain ⟨p, ws, rfl, hq, z, rr⟩ := res_inv rh (lstOf_inv e1) r1
    obtain rfl := ints_rel rr e2
    exact cr_sum hc pins s σ H _ us Q I r ⟨p, ns, rfl, hq, q _ _ _ Ext.refl rh (.int _)⟩
  · cases e
theorem bf_all (hc : X.calm = true) : CallR X (.builtin "all") (rBf X.K (opBf .all)) := by
  intro pins s σ H xs us Q I r ⟨J, h, ds, d, rh, rs, e0, q⟩
  have e : bfAll h ds = some d := e0
  clear e0
  unfold bfAll at e
  split at e
  · obtain ⟨w, rfl, r1⟩ := one_inv rs
    simp only [Option.map_eq_some_iff, Option.bind_eq_some_iff] at e
    obtain ⟨ns, ⟨ys, e1, e2⟩, rfl⟩ := e
    obtain ⟨p, ws, rfl, hq, z, rr⟩ := res_inv rh (lstOf_inv e1) r1
    obtain rfl := bls_rel rr e2
    exact cr_all hc pins s σ H _ us Q I r ⟨p, ns, rfl, hq, q _ _ _ Ext.refl rh (.bl _)⟩
  · cases e
theorem bf_any (hc : X.calm = true) : CallR X (.builtin "any") (rBf X.K (opBf .any)) := by
  intro pins s σ H xs us Q I r ⟨J, h, ds, d, rh, rs, e0, q⟩
  have e : bfAny h ds = some d := e0
  clear e0
  unfold bfAny at e
  split at e
  · obtain ⟨w, rfl, r1⟩ := one_inv rs
    simp only [Option.map_eq_some_iff, Option.bind_eq_some_iff] at e
    obtain ⟨ns, ⟨ys, e1, e2⟩, rfl⟩ := e
    obtain ⟨p, ws, rfl, hq, z, rr⟩ := res_inv rh (lstOf_inv e1) r1
    obtain rfl := bls_rel rr e2
    exact cr_any hc pins s σ H _ us Q I r ⟨p, ns, rfl, hq, q _ _ _ Ext.refl rh (.bl _)⟩
  · cases e
/-- repr of plain data -/
theorem bf_repr (hu : X.A.units + 200 < cLine) (hg : X.A.guards = some []) : CallR X (.builtin "repr") (rBf X.K (opBf .repr)) := by
  intro pins s σ H xs us Q I r ⟨J, h, ds, d, rh, rs, e0, q⟩
  have e : bfRepr h ds = some d := e0
  clear e0
  unfold bfRepr at e
  split at e
  · rename_i x
    obtain ⟨w, rfl, r1⟩ := one_inv rs
    unfold reprD at e
    split at e
    · rename_i hc
      cases e
      (simp only [Bool.and_eq_true, decide_eq_true_eq] at hc)
      obtain ⟨⟨h2, h3⟩, h4⟩ := hc
      have hl : (x.res h).lay = true := by simp only [D.shp, Bool.and_eq_true] at h2; exact h2.1
      have hd : (x.res h).dep ≤ 64 := by simp only [D.shp, Bool.and_eq_true, decide_eq_true_eq] at h2; exact h2.2
      have dp := res_dp rh hl r1
      have seq : ∀ a, w = .ref a → wpAny (model X.prog X.w) X.A (call (.builtin "repr") us) (EP X pins σ Q) X.xe s := by
        rintro u rfl
        obtain rfl := Vals.ref1 r
        obtain ⟨as, rd⟩ := Dp.reads I _ _ (.ref u) dp rfl
        exact repr_of_reads' rd h3 (PyData.noDict_hsm (PyData.hasDict_of_canLay _ (lay_py _ hl))) hg (by rw [dep_py _ hl]; omega) (fun _ _ z => z) (fun h' t tk hk => ⟨.str _, H, I.kept hk, ⟨_, rfl⟩, q _ _ _ Ext.refl rh (.str _)⟩) h4
      obtain ⟨u, rfl, ru⟩ : ∃ u, us = [u] ∧ L2.RelV w u := by
        cases r with | cons p t => cases t; exact ⟨_, rfl, p⟩
      have q2 := q _ _ _ Ext.refl rh (.str _)
      generalize x.res h = y at dp h3 h4 hl q2
      cases y with
      | tup ys => simp only [D.py] at dp; cases dp; exact seq _ rfl
      | lst ys => simp only [D.py] at dp; cases dp; exact seq _ rfl
      | non =>
        simp only [D.py] at dp; cases dp
        cases ru
        exact PySem.P.repr_of_none ⟨.str _, H, I.tok _, ⟨_, rfl⟩, q2⟩
      | bl b =>
        simp only [D.py] at dp; cases dp
        cases ru
        exact PySem.P.repr_of_bool ⟨.str _, H, I.tok _, ⟨_, rfl⟩, q2⟩
      | int i =>
        simp only [D.py] at dp; cases dp
        obtain ⟨t, rfl⟩ := ru
        simp only [D.py, PyData.showable, decide_eq_true_eq] at h3
        exact PySem.P.repr_of_int h3 ⟨.str _, H, I.tok _, ⟨_, rfl⟩, q2⟩
      | str z =>
        simp only [D.py] at dp; cases dp
        obtain ⟨t, rfl⟩ := ru
        exact PySem.P.repr_of_str ⟨.str _, H, I.tok _, ⟨_, rfl⟩, q2⟩ h4
      | _ => cases hl
    · cases e
  · cases e
/-! sorted -/
theorem insI_perm (x : Int) : ∀ l : List Int, (insI x l).Perm (x :: l)
  | [] => .refl _
  | y :: r => by
    unfold insI; split
    · exact .refl _
    · exact ((insI_perm x r).cons y).trans (.swap x y r)
theorem srtI_perm : ∀ l : List Int, (srtI l).Perm l
  | [] => .refl _
  | x :: r => (insI_perm x (srtI r)).trans ((srtI_perm r).cons x)
theorem insI_srt (x : Int) : ∀ {l : List Int}, l.Pairwise (· ≤ ·) → (insI x l).Pairwise (· ≤ ·)
  | [], _ => by simp [insI]
  | y :: r, h => by
    (obtain ⟨h1, h2⟩ := List.pairwise_cons.mp h)
    unfold insI; split
    · rename_i le
      exact List.pairwise_cons.mpr ⟨fun z hz => (List.mem_cons.mp hz).elim (fun e => by rw [e]; exact le) fun hz => Int.le_trans le (h1 z hz), h⟩
    · rename_i le
      refine List.pairwise_cons.mpr ⟨fun z hz => ?_, insI_srt x h2⟩
      rcases List.mem_cons.mp ((insI_perm x r).mem_iff.mp hz) with e | hz
      · omega
      · exact h1 z hz
theorem srtI_srt : ∀ l : List Int, (srtI l).Pairwise (· ≤ ·)
  | [] => .nil
  | x :: r => insI_srt x (srtI_srt r)
theorem srtI_eq {l m : List Int} (p : m.Perm l) (s : m.Pairwise (· ≤ ·)) : m = srtI l :=
  List.Perm.eq_of_pairwise (fun _ _ _ _ => Int.le_antisymm) s (srtI_srt l) (p.trans (srtI_perm l).symm)
def leS (x y : Str) : Prop := PySem.Spec.ltCps y.cps.toList x.cps.toList = false
theorem leS_iff {x y : Str} : leS x y ↔ ¬ y.cps.toList < x.cps.toList := by
  unfold leS
  rw [ltCps_eq, decide_eq_false_iff_not]
theorem leS_trans {x y z : Str} (a : leS x y) (b : leS y z) : leS x z := by
  rw [leS_iff] at *
  exact List.le_trans (l₁ := x.cps.toList) a b
theorem leS_total {x y : Str} (a : ¬ leS x y) : leS y x := by
  rw [leS_iff] at *
  exact List.lt_asymm (Decidable.not_not.mp a)
theorem leS_anti {x y : Str} (a : leS x y) (b : leS y x) : x = y := by
  rw [leS_iff] at *
  have e : x.cps.toList = y.cps.toList := List.le_antisymm a b
  cases x; cases y
  simp only [Array.toList_inj] at e
  rw [e]
theorem insS_perm (x : Str) : ∀ l : List Str, (insS x l).Perm (x :: l)
  | [] => .refl _
  | y :: r => by
    unfold insS; split
    · exact ((insS_perm x r).cons y).trans (.swap x y r)
    · exact .refl _
theorem srtS_perm : ∀ l : List Str, (srtS l).Perm l
  | [] => .refl _
  | x :: r => (insS_perm x (srtS r)).trans ((srtS_perm r).cons x)
theorem insS_srt (x : Str) : ∀ {l : List Str}, l.Pairwise leS → (insS x l).Pairwise leS
  | [], _ => by simp [insS]
  | y :: r, h => by
    (obtain ⟨h1, h2⟩ := List.pairwise_cons.mp h)
    unfold insS; split
    · rename_i lt
      refine List.pairwise_cons.mpr ⟨fun z hz => ?_, insS_srt x h2⟩
      rcases List.mem_cons.mp ((insS_perm x r).mem_iff.mp hz) with e | hz
      · rw [e]; exact leS_total (by unfold leS; rw [lt]; exact Bool.noConfusion)
      · exact h1 z hz
    · rename_i nlt
      have le : leS x y := by simpa [leS] using nlt
      exact List.pairwise_cons.mpr ⟨fun z hz => (List.mem_cons.mp hz).elim (fun e => by rw [e]; exact le) fun hz => leS_trans le (h1 z hz), h⟩
theorem srtS_srt : ∀ l : List Str, (srtS l).Pairwise leS
  | [] => .nil
  | x :: r => insS_srt x (srtS_srt r)
theorem srt_of_rising : ∀ (p : Str) (l : List Str), risingS p l = true → (p :: l).Pairwise leS
  | p, [], _ => by simp
  | p, x :: r, h => by
    simp only [risingS, Bool.and_eq_true, Bool.not_eq_true'] at h
    have ih := srt_of_rising x r h.2
    have px : leS p x := h.1
    refine List.pairwise_cons.mpr ⟨fun z hz => ?_, ih⟩
    (rcases List.mem_cons.mp hz with e | hz)
    · rw [e]; exact px
    · exact leS_trans px ((List.pairwise_cons.mp ih).1 z hz)
theorem srtS_eq {l m : List Str} (p : m.Perm l) (s : sortedS m = true) : m = srtS l := by
  have s2 : m.Pairwise leS := by
    cases m with
    | nil => exact .nil
    | cons x r => exact srt_of_rising x r s
  exact List.Perm.eq_of_pairwise (fun _ _ _ _ => leS_anti) s2 (srtS_srt l) (p.trans (srtS_perm l).symm)
theorem insD_mem (x : Int) : ∀ {l : List Int} {z : Int}, z ∈ insD x l ↔ z = x ∨ z ∈ l
  | [], z => by simp [insD]
  | y :: r, z => by
    unfold insD; split
    · simp
    · split
      · rename_i e; subst e; simp
      · simp only [List.mem_cons, insD_mem x]; exact or_left_comm
theorem srtD_mem : ∀ {l : List Int} {z : Int}, z ∈ srtD l ↔ z ∈ l
  | [], z => by simp [srtD]
  | x :: r, z => by
    show z ∈ insD x (srtD r) ↔ _
    rw [insD_mem, srtD_mem, List.mem_cons]
theorem insD_srt (x : Int) : ∀ {l : List Int}, l.Pairwise (· < ·) → (insD x l).Pairwise (· < ·)
  | [], _ => by simp [insD]
  | y :: r, h => by
    (obtain ⟨h1, h2⟩ := List.pairwise_cons.mp h)
    unfold insD; split
    · rename_i lt
      exact List.pairwise_cons.mpr ⟨fun z hz => (List.mem_cons.mp hz).elim (fun e => by rw [e]; exact lt) fun hz => Int.lt_trans lt (h1 z hz), h⟩
    · split
      · exact h
      · refine List.pairwise_cons.mpr ⟨fun z hz => ?_, insD_srt x h2⟩
        rcases (insD_mem x).mp hz with e | hz
        · omega
        · exact h1 z hz
theorem srtD_srt : ∀ l : List Int, (srtD l).Pairwise (· < ·)
  | [] => .nil
  | x :: r => insD_srt x (srtD_srt r)
theorem srtD_eq {l m : List Int} (s : m.Pairwise (· < ·)) (e : ∀ z, z ∈ m ↔ z ∈ l) : m = srtD l := by
  have nd : ∀ {k : List Int}, k.Pairwise (· < ·) → k.Nodup := fun h => h.imp fun h => Int.ne_of_lt h
  refine List.Perm.eq_of_pairwise (le := (· < ·)) (fun a b _ _ h1 h2 => (Int.lt_asymm h1 h2).elim) s (srtD_srt l) ?_
  exact (List.perm_ext_iff_of_nodup (nd s) (nd (srtD_srt l))).mpr fun z => by rw [e, srtD_mem]
theorem strs_rel {K : PySem.W.Frag} {J : Jn} {H : Hp} : ∀ {ds : List D} {vs : List V} {ns : List Str}, RDs K J H ds vs → D.strs ds = some ns → vs = ns.map V.str
  | _, _, _, .nil, e => by cases e; rfl
  | _, _, _, .cons r t, e => by
    cases r <;> simp only [D.strs] at e <;> try (cases e; done)
    simp only [Option.map_eq_some_iff] at e
    obtain ⟨ms, e, rfl⟩ := e
    rw [strs_rel t e]; rfl
theorem rds_ints {K : PySem.W.Frag} {J : Jn} {H : Hp} : ∀ ns : List Int, RDs K J H (ns.map D.int) (ns.map V.int)
  | [] => .nil
  | n :: ns => .cons (.int n) (rds_ints ns)
theorem rds_strs {K : PySem.W.Frag} {J : Jn} {H : Hp} : ∀ ns : List Str, RDs K J H (ns.map D.str) (ns.map V.str)
  | [] => .nil
  | n :: ns => .cons (.str n) (rds_strs ns)
theorem seq_both {K : PySem.W.Frag} {J : Jn} {H : Hp} {h : Hh} {d : D} {ds : List D} {v : V} (rh : RH K J h H) (hf : ∀ ys, d ≠ .ftup ys) (e : d.seq h = some ds) (r : RD K J H d v) :
    ∃ a vs, v = .ref a ∧ (SqL K H a vs ∨ SqT K H a vs) ∧ RDs K J H ds vs := by
  rcases seq_cases rh hf e r with rfl | ⟨p, ws, rfl, hq, z, rr⟩
  · obtain ⟨p, ws, rfl, hq, z, rr⟩ := r.tup_inv
    exact ⟨p, ws, rfl, .inr hq, rr⟩
  · exact ⟨p, ws, rfl, .inl hq, rr⟩
theorem keyInts_rel {K : PySem.W.Frag} {J : Jn} {H : Hp} : ∀ {kvs : List (Key × D)} {kws : List (Key × V)} {ns : List Int}, Paired (fun p q => p.1 = q.1 ∧ RD K J H p.2 q.2) kvs kws → keyInts kvs = some ns → kws.map (·.1) = ns.map Sum.inl
  | _, _, _, .nil, e => by cases e; rfl
  | (p1, p2) :: ps, q :: qs, ns, .cons x t, e => by
    cases p1 with
    | inl i =>
      simp only [keyInts, Option.map_eq_some_iff] at e
      obtain ⟨ms, e, rfl⟩ := e
      rw [List.map_cons, keyInts_rel t e, ← x.1]; rfl
    | inr i => simp [keyInts] at e
/-- the items sorted -/
theorem srt_do {pins : List (Addr × Obj)} {s : Shared} {σ : L2.St} {H : Hp} {us : List Value} {Q : VK} {J : Jn} {h : Hh} {any : Bool} {ys : List D} {ws : List V} {d : D} {p : Addr} (I : Inv X pins σ H s) (r : Vals [V.ref p] us) (rh : RH X.K J h H)
    (hq : SqL X.K H p ws ∨ (any = false ∧ SqT X.K H p ws)) (hz : ws.length ≤ sizeLine) (rr : RDs X.K J H ys ws) (e : srtItems any ys = some d) (q : ∀ J' H' v, Ext J H J' H' → RH X.K J' h H' → RD X.K J' H' d v → Q v H') :
    wpAny (model X.prog X.w) X.A (call (.builtin "sorted") us) (EP X pins σ Q) X.xe s := by
  unfold srtItems at e
  split at e
  · rename_i ns hi
    obtain rfl := ints_rel rr hi
    rw [List.length_map] at hz
    split at e
    · rename_i h64
      cases e
      have fin : ∀ (ns2 : List Int) (p2 : Addr), ns2.Perm ns → ns2.Pairwise (· ≤ ·) → H p2 = none → Q (.ref p2) (upd H p2 (.lst (ns2.map V.int))) := fun ns2 p2 a1 a2 np => by
        rw [srtI_eq a1 a2]
        refine q _ _ _ (Ext.laid np) (rh.laid np) (RD.newLst rh np (rds_ints _) ?_)
        rw [List.length_map, (srtI_perm ns).length_eq]; exact hz
      rcases hq with hq | ⟨ha, hq⟩
      · exact cr_sortedI pins s σ H _ us Q I r ⟨p, ns, rfl, hq, fin⟩
      · subst ha
        simp only [Bool.false_or, decide_eq_true_eq] at h64
        exact PVX.cr_srtI pins s σ H _ us Q I r ⟨p, ns, rfl, .inr hq, h64, fin⟩
    · cases e
  · split at e
    · rename_i ns hi
      obtain rfl := strs_rel rr hi
      split at e
      · rename_i h64
        cases e
        refine PVX.cr_srtS pins s σ H _ us Q I r ⟨p, ns, rfl, hq.elim .inl (fun z => .inr z.2), h64, fun ns2 p2 a1 a2 np => ?_⟩
        rw [srtS_eq a1 a2]
        refine q _ _ _ (Ext.laid np) (rh.laid np) (RD.newLst rh np (rds_strs _) ?_)
        rw [List.length_map, (srtS_perm ns).length_eq]; exact small64 h64
      · cases e
    · cases e
theorem bf_sorted (hc : X.calm = true) : CallR X (.builtin "sorted") (rBf X.K (opBf .sorted)) := by
  intro pins s σ H xs us Q I r ⟨J, h, ds, d, rh, rs, e0, q⟩
  have e : bfSorted h ds = some d := e0
  clear e0
  unfold bfSorted at e
  split at e
  · cases e
  · obtain ⟨w, rfl, r1⟩ := one_inv rs
    obtain ⟨p, ws, rfl, hq, z, rr⟩ := r1.tup_inv
    exact srt_do I r rh (.inr ⟨rfl, hq⟩) z rr e q
  · obtain ⟨w, rfl, r1⟩ := one_inv rs
    obtain ⟨p, ws, rfl, hq, z, rr⟩ := res_inv rh rfl r1
    exact srt_do I r rh (.inl hq) z rr e q
  · obtain ⟨w, rfl, r1⟩ := one_inv rs
    obtain ⟨p, ws, rfl, hq, z, rr⟩ := res_inv rh rfl r1
    exact srt_do I r rh (.inl hq) z rr e q
  · obtain ⟨w, rfl, r1⟩ := one_inv rs
    cases r1 with
    | @ref i a q1 =>
      obtain ⟨o, w, h1, h2, h3⟩ := rh.at q1
      simp only [h1] at e
      cases h3 with
      | lst z rr => exact srt_do I r rh (.inl (.inl (.inl h2))) z rr e q
      | @dct kvs kws z rr =>
        simp only [Option.bind_eq_some_iff] at e
        obtain ⟨ns, e1, e2⟩ := e
        split at e2
        · rename_i h64
          cases e2
          refine call_sortedDI hc pins s σ H _ us Q I r ⟨a, kws, ns, rfl, .inl h2, keyInts_rel rr e1, h64, fun ns2 p2 a1 a2 np => ?_⟩
          rw [srtI_eq a1 a2]
          refine q _ _ _ (Ext.laid np) (rh.laid np) (RD.newLst rh np (rds_ints _) ?_)
          rw [List.length_map, (srtI_perm ns).length_eq]; exact small64 h64
        · cases e2
  · cases e
/-- list(x): a new list -/
theorem bf_list : CallR X (.type "list") (fun xs H Q => ∃ J h ds d, RH X.K J h H ∧ RDs X.K J H ds xs ∧ bfList h ds = some d ∧ ∀ p ys vs, d = .lst ys → H p = none → vs.length ≤ sizeLine → RDs X.K J H ys vs → Q (.ref p) (upd H p (.lst vs))) := by
  intro pins s σ H xs us Q I r ⟨J, h, ds, d, rh, rs, e, q⟩
  unfold bfList at e
  split at e
  · obtain ⟨w, rfl, r1⟩ := one_inv rs
    simp only [Option.map_eq_some_iff] at e
    obtain ⟨ys, e, rfl⟩ := e
    obtain ⟨p, ws, rfl, hq, z, rr⟩ := seq_inv rh e r1
    exact call_list_of pins s σ H _ us Q I r ⟨p, ws, rfl, hq, fun l nl => q l _ _ rfl nl z rr⟩
  · cases e

/-! ### isinstance -/
def Ty.nm : Ty → String
  | .int => "int" | .str => "str" | .tup => "tuple" | .lst => "list" | .bl => "bool" | .dct => "dict" | .non => "NoneType"
def D.tyn (h : Hh) : D → String
  | .ftup _ => "tuple" | .exc _ => "NoneType" | .exf _ _ _ => "NoneType" | .non => "NoneType" | .bl _ => "bool" | .int _ => "int" | .str _ => "str" | .tup _ => "tuple" | .lst _ => "list" | .fz _ => "list"
  | .ref i => match h[i]? with
    | some (.dct _) => "dict"
    | _ => "list"
theorem tyx_of {K : PySem.W.Frag} {J : Jn} {H : Hp} {h : Hh} {d : D} {v : V} (rh : RH K J h H) (hf : d.isF = false) (r : RD K J H d v) : TyX K H v (.type (d.tyn h)) := by
  cases r with
  | ft n m q c d z r => cases hf
  | exc n m q => cases hf
  | exf n m q n2 m2 q2 r => cases hf
  | non => exact .base .non
  | bl b => exact .base (.bl b)
  | int i => exact .base (.int i)
  | str x => exact .base (.str x)
  | tup n m q z r => exact .base (.tup q)
  | ktup k z r => obtain ⟨o, its, n, k1, k2, _⟩ := k; exact .kTuple k1 k2
  | lst n m q z r => exact .base (.lst q)
  | fz n m q z r => exact .base (.frz q)
  | kfz k z r => obtain ⟨o, its, n, k1, k2, _⟩ := k; exact .kList k1 k2
  | ref q =>
    obtain ⟨o, u, h1, h2, h3⟩ := rh.at q
    simp only [D.tyn, h1]
    cases h3 with
    | lst z r => exact .base (.lst h2)
    | dct z r => exact .base (.dK h2)
theorem isi_kit : ∀ (t : Ty) (n : String), n ∈ ["NoneType", "bool", "int", "str", "tuple", "list", "dict"] → kitB n t.nm = some (decide (n = t.nm) || (decide (n = "bool") && decide (t.nm = "int"))) := by
  intro t n hn
  simp only [List.mem_cons, List.not_mem_nil, or_false] at hn
  cases t <;> rcases hn with rfl | rfl | rfl | rfl | rfl | rfl | rfl <;> decide +kernel
theorem isi_ops {t : Ty} : CallR X (.builtin "isinstance") (fun xs H Q => ∃ J h d v, RH X.K J h H ∧ d.isF = false ∧ RD X.K J H d v ∧ xs = [v, .ty t.nm] ∧ Q (.bl (opIsi t h d)) H) := by
  intro pins s σ H xs us Q I r ⟨J, h, d, v, rh, hf, r1, ex, q⟩
  have hn : d.tyn h ∈ ["NoneType", "bool", "int", "str", "tuple", "list", "dict"] := by
    cases d <;> simp only [D.tyn] <;> try decide
    split <;> decide
  have e := isi_kit t _ hn
  have e2 : (decide (d.tyn h = t.nm) || (decide (d.tyn h = "bool") && decide (t.nm = "int"))) = opIsi t h d := by
    cases r1 with
    | ref q1 =>
      obtain ⟨o, w, h1, h2, h3⟩ := rh.at q1
      cases o <;> cases t <;> simp [opIsi, D.tyn, h1, Ty.nm]
    | ft => cases hf
    | exc => cases hf
    | exf => cases hf
    | _ => cases t <;> simp [opIsi, D.tyn, Ty.nm]
  rw [e2] at e
  exact call_isi pins s σ H xs us Q I r ⟨v, .ty t.nm, .type (d.tyn h), .type t.nm, _, ex, .ty _, tyx_of rh hf r1, kit_ty e, q⟩

/-! ### methods -/
def rMt (K : PySem.W.Frag) (m : Mt) : V → List V → Hp → VK → Prop := fun x xs H Q => ∃ J h dx ds d h', RH K J h H ∧ RD K J H dx x ∧ RDs K J H ds xs ∧ mthOp m dx ds h = .ok d h' ∧ ∀ J' H' v, Ext J H J' H' → RH K J' h' H' → RD K J' H' d v → Q v H'
theorem RH.writeL {K : PySem.W.Frag} {J : Jn} {h : Hh} {H : Hp} {i : Nat} {a : Addr} {ds : List D} {vs : List V} (rh : RH K J h H) (q : J.l[i]? = some a) (z : vs.length ≤ sizeLine) (r : RDs K J H ds vs) : RH K J (h.set i (.lst ds)) (upd H a (.lst vs)) :=
  rh.write q (.lst z (r.ext (Ext.write q)))
theorem mt_lst {K : PySem.W.Frag} {J : Jn} {h : Hh} {H : Hp} {m : Mt} {x : V} {dx d : D} {ds : List D} {h' : Hh} (rh : RH K J h H) (r1 : RD K J H dx x) (e : mthOp m dx ds h = .ok d h') :
    ∃ i a ys ws ys', x = .ref a ∧ J.l[i]? = some a ∧ H a = some (.lst ws) ∧ ws.length ≤ sizeLine ∧ RDs K J H ys ws ∧ mtL m ys ds = some (d, ys') ∧ h' = h.set i (.lst ys') := by
  cases r1 with
  | ref q1 =>
    obtain ⟨o, w, h1, h2, h3⟩ := rh.at q1
    simp only [mthOp, mthRef, h1] at e
    cases h3 with
    | lst z rr =>
      dsimp only at e
      split at e
      · rename_i p hp; cases e; exact ⟨_, _, _, _, _, rfl, q1, h2, z, rr, hp, rfl⟩
      · cases e
    | dct z rr => cases e
  | _ => cases e
theorem mt_appendD : MtR X "list.append" (rMt X.K .append) := by
  intro pins s σ H x xs v us Q I rx rs ⟨J, h, dx, ds, d, h', rh, r1, r2, e, q⟩
  obtain ⟨i, a, ys, ws, ys', rfl, q1, h2, z, rr, e1, rfl⟩ := mt_lst rh r1 e
  have e2 : mtAppend ys ds = some (d, ys') := e1
  unfold mtAppend at e2
  split at e2
  · split at e2
    · rename_i hz; cases e2
      obtain ⟨y, rfl, ry⟩ := one_inv r2
      have hs : ws.length + 1 ≤ sizeLine := by rw [← rr.length]; exact size_of hz
      exact mt_append pins s σ H _ _ v us Q I rx rs ⟨_, ws, y, rfl, rfl, h2, hs, q _ _ _ (Ext.write q1) (rh.writeL q1 (by rw [List.length_append]; exact hs) (rr.append (.cons ry .nil))) .non⟩
    · cases e2
  · cases e2
theorem mt_popD : MtR X "list.pop" (fun x xs H Q => rMt X.K .pop x xs H Q ∨ rMt X.K .popAt x xs H Q) := by
  intro pins s σ H x xs v us Q I rx rs hw
  rcases hw with ⟨J, h, dx, ds, d, h', rh, r1, r2, e, q⟩ | ⟨J, h, dx, ds, d, h', rh, r1, r2, e, q⟩
  · obtain ⟨i, a, ys, ws, ys', rfl, q1, h2, z, rr, e1, rfl⟩ := mt_lst rh r1 e
    have e2 : mtPop ys ds = some (d, ys') := e1
    unfold mtPop at e2
    split at e2
    · simp only [Option.map_eq_some_iff] at e2
      obtain ⟨y, hy, e3⟩ := e2
      cases e3
      rw [rr.length] at hy
      obtain ⟨w, hw, rw'⟩ := rr.get hy
      cases r2
      exact mt_pop pins s σ H _ _ v us Q I rx rs ⟨_, ws, w, rfl, rfl, h2, hw, q _ _ _ (Ext.write q1) (rh.writeL q1 (by rw [List.length_dropLast]; omega) rr.dropLast) (rw'.ext (Ext.write q1))⟩
    · cases e2
  · obtain ⟨i, a, ys, ws, ys', rfl, q1, h2, z, rr, e1, rfl⟩ := mt_lst rh r1 e
    have e2 : mtPopAt ys ds = some (d, ys') := e1
    unfold mtPopAt at e2
    split at e2
    · simp only [Option.map_eq_some_iff, Option.bind_eq_some_iff] at e2
      obtain ⟨j, hk, y, hy, e3⟩ := e2
      cases e3
      rw [rr.length] at hk
      obtain ⟨w, hw, rw'⟩ := rr.get hy
      obtain ⟨s1, s2, s3, s4⟩ := ixN_seq hk
      obtain ⟨y2, rfl, ry⟩ := one_inv r2
      cases ry
      have hs := sizeLine_eq
      refine mt_popAt pins s σ H _ _ v us Q I rx rs ⟨_, ws, _, j, w, rfl, rfl, h2, by omega, by omega, s1, hw, q _ _ _ (Ext.write q1) (rh.writeL q1 ?_ (rr.eraseIdx _)) (rw'.ext (Ext.write q1))⟩
      have := List.length_eraseIdx_le ws j
      omega
    · cases e2
end
end PV
end

section
set_option maxRecDepth 100000
namespace PV
open L2 PySem PySem.Spec PyProof.Rows

/-! ### the text's forms -/
def asName : Expr → Option Str
  | .Name x _ => some x
  | _ => none
def asCon : Expr → Option Const
  | .Constant k _ _ => some k
  | _ => none
def asTup : Expr → Option (List Expr)
  | .Tuple xs _ _ => some xs
  | _ => none
def asLst : Expr → Option (List Expr)
  | .List xs _ => some xs
  | _ => none
def asBin : Expr → Option (Expr × Operator × Expr)
  | .BinOp a o b _ => some (a, o, b)
  | _ => none
def asUn : Expr → Option (UnaryOp × Expr)
  | .UnaryOp o a _ => some (o, a)
  | _ => none
def asCmp1 : Expr → Option (Expr × CmpOp × Expr)
  | .Compare a [o] [b] _ => some (a, o, b)
  | _ => none
def asCmp2 : Expr → Option (Expr × CmpOp × CmpOp × Expr × Expr)
  | .Compare a [o, p] [b, c] _ => some (a, o, p, b, c)
  | _ => none
def asBool : Expr → Option (BoolOp × Expr × List Expr)
  | .BoolOp o (a :: es) _ => some (o, a, es)
  | _ => none
def asIf : Expr → Option (Expr × Expr × Expr)
  | .IfExp c a b _ => some (c, a, b)
  | _ => none
def asSub : Expr → Option (Expr × Expr)
  | .Subscript a i _ => some (a, i)
  | _ => none
def asSlc : Expr → Option (Option Expr × Option Expr)
  | .Slice lo hi none _ => some (lo, hi)
  | _ => none
def asCall : Expr → Option (Str × List Expr)
  | .Call (.Name x _) es [] _ => some (x, es)
  | _ => none
def asMth : Expr → Option (Expr × Str × List Expr)
  | .Call (.Attribute o m apos) es [] cpos => if apos.endLine == cpos.line then some (o, m, es) else none
  | _ => none
def asLc : Expr → Option (Expr × Expr × Expr × List Expr × Scope)
  | .ListComp elt [⟨tg, iter, ifs, a⟩] scope _ => if a = 0 then some (elt, tg, iter, ifs, scope) else none
  | _ => none
def asDic0 : Expr → Bool
  | .Dict [] [] _ => true
  | _ => false
def asIsi : Expr → Option (Str × Expr × Str)
  | .Call (.Name f _) [a, .Name ty _] [] _ => some (f, a, ty)
  | _ => none
def asTenum : Expr → Option (Str × Str × Expr)
  | .Call (.Name f _) [.Call (.Name g _) [a] [] _] [] _ => some (f, g, a)
  | _ => none
def asCallK : Expr → Option (Str × List Expr × List Keyword)
  | .Call (.Name x _) es kws _ => some (x, es, kws)
  | _ => none
/-- not a star, a set display or a slice -/
def plainX : Expr → Bool
  | .Starred .. => false
  | .Set .. => false
  | .Slice .. => false
  | _ => true
section
variable {e : Expr}
theorem asName_eq {x : Str} (h : asName e = some x) : ∃ p, e = .Name x p := by cases e <;> simp [asName] at h; exact ⟨_, by rw [h]⟩
theorem asCon_eq {x : Const} (h : asCon e = some x) : ∃ k p, e = .Constant x k p := by cases e <;> simp [asCon] at h; exact ⟨_, _, by rw [h]⟩
theorem asTup_eq {x : List Expr} (h : asTup e = some x) : ∃ k p, e = .Tuple x k p := by cases e <;> simp [asTup] at h; exact ⟨_, _, by rw [h]⟩
theorem asLst_eq {x : List Expr} (h : asLst e = some x) : ∃ p, e = .List x p := by cases e <;> simp [asLst] at h; exact ⟨_, by rw [h]⟩
theorem asBin_eq {a b : Expr} {o : Operator} (h : asBin e = some (a, o, b)) : ∃ p, e = .BinOp a o b p := by
  cases e <;> simp [asBin] at h; obtain ⟨rfl, rfl, rfl⟩ := h; exact ⟨_, rfl⟩
theorem asUn_eq {a : Expr} {o : UnaryOp} (h : asUn e = some (o, a)) : ∃ p, e = .UnaryOp o a p := by
  cases e <;> simp [asUn] at h; obtain ⟨rfl, rfl⟩ := h; exact ⟨_, rfl⟩
theorem asCmp1_eq {a b : Expr} {o : CmpOp} (h : asCmp1 e = some (a, o, b)) : ∃ p, e = .Compare a [o] [b] p := by
  unfold asCmp1 at h
  split at h
  · cases h; exact ⟨_, rfl⟩
  · cases h
theorem asCmp2_eq {a b c : Expr} {o p : CmpOp} (h : asCmp2 e = some (a, o, p, b, c)) : ∃ q, e = .Compare a [o, p] [b, c] q := by
  unfold asCmp2 at h
  split at h
  · cases h; exact ⟨_, rfl⟩
  · cases h
theorem asBool_eq {a : Expr} {o : BoolOp} {es : List Expr} (h : asBool e = some (o, a, es)) : ∃ p, e = .BoolOp o (a :: es) p := by
  unfold asBool at h
  split at h
  · cases h; exact ⟨_, rfl⟩
  · cases h
theorem asIf_eq {a b c : Expr} (h : asIf e = some (c, a, b)) : ∃ p, e = .IfExp c a b p := by
  cases e <;> simp [asIf] at h; obtain ⟨rfl, rfl, rfl⟩ := h; exact ⟨_, rfl⟩
theorem asSub_eq {a i : Expr} (h : asSub e = some (a, i)) : ∃ p, e = .Subscript a i p := by
  cases e <;> simp [asSub] at h; obtain ⟨rfl, rfl⟩ := h; exact ⟨_, rfl⟩
theorem asSlc_eq {lo hi : Option Expr} (h : asSlc e = some (lo, hi)) : ∃ p, e = .Slice lo hi none p := by
  unfold asSlc at h
  split at h
  · cases h; exact ⟨_, rfl⟩
  · cases h
theorem asCall_eq {x : Str} {es : List Expr} (h : asCall e = some (x, es)) : ∃ p q, e = .Call (.Name x p) es [] q := by
  unfold asCall at h
  split at h
  · cases h; exact ⟨_, _, rfl⟩
  · cases h
theorem asMth_eq {o : Expr} {m : Str} {es : List Expr} (h : asMth e = some (o, m, es)) : ∃ p q, e = .Call (.Attribute o m p) es [] q ∧ (p.endLine == q.line) = true := by
  unfold asMth at h
  split at h
  · split at h
    · rename_i hl; cases h; exact ⟨_, _, rfl, hl⟩
    · cases h
  · cases h
theorem asLc_eq {elt tg iter : Expr} {ifs : List Expr} {scope : Scope} (h : asLc e = some (elt, tg, iter, ifs, scope)) : ∃ p, e = .ListComp elt [⟨tg, iter, ifs, 0⟩] scope p := by
  unfold asLc at h
  split at h
  · split at h
    · rename_i ha; cases h; subst ha; exact ⟨_, rfl⟩
    · cases h
  · cases h
theorem asDic0_eq (h : asDic0 e = true) : ∃ p, e = .Dict [] [] p := by
  unfold asDic0 at h
  split at h
  · exact ⟨_, rfl⟩
  · cases h
theorem asIsi_eq {f ty : Str} {a : Expr} (h : asIsi e = some (f, a, ty)) : ∃ p q r, e = .Call (.Name f p) [a, .Name ty q] [] r := by
  unfold asIsi at h
  split at h
  · cases h; exact ⟨_, _, _, rfl⟩
  · cases h
theorem asTenum_eq {f g : Str} {a : Expr} (h : asTenum e = some (f, g, a)) : ∃ p q r s, e = .Call (.Name f p) [.Call (.Name g q) [a] [] r] [] s := by
  unfold asTenum at h
  split at h
  · cases h; exact ⟨_, _, _, _, rfl⟩
  · cases h
theorem asCallK_eq {x : Str} {es : List Expr} {kws : List Keyword} (h : asCallK e = some (x, es, kws)) : ∃ p q, e = .Call (.Name x p) es kws q := by
  unfold asCallK at h
  split at h
  · cases h; exact ⟨_, _, rfl⟩
  · cases h
theorem plain_star (h : plainX e = true) (es : List Expr) (env : PySem.Env) : starEach (e :: es) env = (false, eval e env) :: starEach es env := by
  cases e <;> first | rfl | simp [plainX] at h
theorem plain_mark (h : plainX e = true) (o : CmpOp) : behindInMarks o e = false := by cases e <;> first | rfl | simp [plainX] at h
theorem plain_fold (h : plainX e = true) (env : PySem.Env) (x : Value) : foldedSetIterable e env x = pure x := by cases e <;> first | rfl | simp [plainX] at h
theorem plain_ix (h : plainX e = true) : PlainIx e := by intro o i; cases e <;> first | rfl | simp [plainX] at h
end
end PV
end

section
set_option maxRecDepth 100000
namespace PV
open L2 PySem PySem.Spec PyProof.Rows

/-! ### what is known of the place where a piece stands -/
structure Cs where
  N : List Str
  sc : Scope
  fn : Str → Bool
  bs : List Str
  T : List Fn
  gn : List Str
  /-- exception classes that are made -/
  xs : List Str
  xm : Xm
  /-- exception classes with an own __init__, which keeps its argument: (class, field) -/
  xg : List (Str × Str)
  /-- within an except suite; the defs that may be called there -/
  hot : Bool
  qt : List Nat
/-- what is known of exception classes -/
structure XF (K : PySem.W.Frag) (mg : Str → Option Value) (q : Xm) : Prop where
  m : ∀ x y b, (x, y, b) ∈ q.m → ∃ C C', mg x = some (.ref C) ∧ mg y = some (.ref C') ∧ PySem.W.exmOne K (.ref C) (.ref C') = some b
  g : ∀ x y b, (x, y, b) ∈ q.m → mg x = some (.ref (He.ga K x))
  i : ∀ x y b, (x, y, b) ∈ q.i → ∃ C', mg y = some (.ref C') ∧ ExcC K (He.ga K x) ∧ PySem.W.kitOne K (.ref (He.ga K x)) (.ref C') = some b
  f : ∀ x g, (x, g) ∈ q.f → XfC K (He.ga K x) ∧ PySem.W.findIn K (.ref (He.ga K x)) g = some none
  v : ∀ x ∈ q.v, ExcC K (He.ga K x) ∧ PySem.W.kitOne K (.ref (He.ga K x)) (.type "ValueError") = some true
/-- what is known of the exception classes that keep their argument -/
def GtOk (P : Program) (K : PySem.W.Frag) (mg : Str → Option Value) (xg : List (Str × Str)) : Prop := ∀ p ∈ xg, mg p.1 = some (.ref (He.ga K p.1)) ∧ GA.Gate P K (He.ga K p.1) p.2 ∧ XfC K (He.ga K p.1) ∧ PySem.W.findIn K (.ref (He.ga K p.1)) p.2 = some none
def spF (K : PySem.W.Frag) (mg : Str → Option Value) (F : Fns) (f : Nat) (n : Nat) : Sp := fun vs H Q E => vs.length = n ∧ ∃ J h ds, RDs K J H ds vs ∧ RH K J h H ∧ PostX K mg E J H (rD K) (F f ds h) Q
/-- how a call with keywords binds -/
structure KwOk (K : PySem.W.Frag) (fd : FuncData) (ps : List Str) (n : Nat) (ks : List Str) (pm : List Nat) : Prop where
  to : ∀ (s : Shared) (us ws : List Value), K.In s.heap → us.length = n → ws.length = ks.length → BindsTo s fd ⟨us, ks.zip ws⟩ (ps.zip (pmD .none pm us ws))
  len : pm.length = ps.length
/-- what a def promises where no repr is under way -/
structure FnG (P : Program) (w : World) (K : PySem.W.Frag) (mg : Str → Option Value) (base : Heap) (k : Nat) (f : Addr) (fd : FuncData) (ps : List Str) (sp : Sp) : Prop where
  len : ∀ vs H Q E, (sp vs H Q E → vs.length = ps.length)
  go : ∀ {A : Around} {out : List PySem.Env} {s : Shared} {H : Hp} {args : Args} {us : List Value} {vs : List V} {Q : VK} {E : XK}, Room k A → A.guards = some [] → Env0 P w K mg base A out s H → BindsTo s fd args (ps.zip us) → Vals vs us → sp vs H Q E →
    codeAny (model P w) A (.call (.ref f) args) (CR (L2N.CX P w) out P w H s Q E) s
structure CallOk (T : List Fn) (F : Fns) (X : Cx) : Prop where
  ok : ∃ k, Room k X.A ∧ X.A.guards = some [] ∧ ∀ (f : Nat) (fn : Fn), T[f]? = some fn → ∃ a fd, X.mg fn.name = some (.ref a) ∧ PySem.W.keepIn X.K (.ref a) = true ∧ FnG X.prog X.w X.K X.mg X.base k a fd fn.P (spF X.K X.mg F f fn.P.length) ∧ Binds X.K fd fn.P [] ∧ ∀ q ∈ fn.kw, KwOk X.K fd fn.P q.1 q.2.1 q.2.2
/-- what a def promises within an except suite: it raises nothing there -/
structure FnQ (P : Program) (w : World) (K : PySem.W.Frag) (mg : Str → Option Value) (base : Heap) (k : Nat) (f : Addr) (fd : FuncData) (ps : List Str) (sp : Sp) : Prop where
  len : ∀ vs H Q E, (sp vs H Q E → vs.length = ps.length)
  go : ∀ {A : Around} {out : List PySem.Env} {s : Shared} {H : Hp} {args : Args} {us : List Value} {vs : List V} {Q : VK}, L2H.RoomH k A → A.guards = some [] → Env0 P w K mg base A out s H → BindsTo s fd args (ps.zip us) → Vals vs us → sp vs H Q E0 →
    codeAny (model P w) A (.call (.ref f) args) (CR (L2N.CX P w) out P w H s Q E0) s
structure QOk (T : List Fn) (qt : List Nat) (F : Fns) (X : Cx) : Prop where
  ok : ∃ k, L2H.RoomH k X.A ∧ X.A.guards = some [] ∧ ∀ (f : Nat) (fn : Fn), f ∈ qt → T[f]? = some fn → ∃ a fd, X.mg fn.name = some (.ref a) ∧ PySem.W.keepIn X.K (.ref a) = true ∧ FnQ X.prog X.w X.K X.mg X.base k a fd fn.P (spF X.K X.mg F f fn.P.length) ∧ Binds X.K fd fn.P []
structure Ok (c : Cs) (F : Fns) (G : List D) (X : Cx) : Prop where
  hN : X.N = c.N
  nd : X.N.Nodup
  sc : X.env.scope = c.sc
  fn : X.fn = c.fn
  calm : c.hot = false → X.calm = true
  call : c.hot = false → CallOk c.T F X
  quiet : QOk c.T c.qt F X
  blt : ∀ x ∈ c.bs, X.mg x = none
  glo : ∀ (i : Nat) (x : Str) (d : D), c.gn[i]? = some x → G[i]? = some d → ∃ v u, X.mg x = some u ∧ L2.RelV v u ∧ ∀ J H, RD X.K J H d v
  exc : ∀ x ∈ c.xs, ∃ C, X.mg x = some (.ref C) ∧ PySem.W.excIn X.K C He.veBase "ValueError.__new__" = true ∧ PySem.W.keepIn X.K (.ref C) = true ∧ Raises X (.ref C)
  exm : XF X.K X.mg c.xm
  gate : GtOk X.prog X.K X.mg c.xg
/-- not within a suite -/
def coolO {α : Type} (c : Cs) (o : Option α) : Option α := if c.hot then none else o
theorem coolO_eq {α : Type} {c : Cs} {o : Option α} {a : α} (h : coolO c o = some a) : c.hot = false ∧ o = some a := by
  unfold coolO at h
  split at h
  · cases h
  · rename_i q
    exact ⟨by simpa using q, h⟩
/-- an exception class that the text names -/
def Cs.xn (c : Cs) (k : Str) : Bool := decide (k ∈ c.xs) || c.xg.any fun p => decide (p.1 = k)
theorem xn_ok {c : Cs} {F : Fns} {G : List D} {X : Cx} (o : Ok c F G X) {k : Str} (h : c.xn k = true) : ∃ C, X.mg k = some (.ref C) := by
  rcases Bool.or_eq_true_iff.mp h with q | q
  · obtain ⟨C, m, _⟩ := o.exc k (of_decide_eq_true q)
    exact ⟨C, m⟩
  · obtain ⟨p, hp, e⟩ := List.any_eq_true.mp q
    have e := of_decide_eq_true e
    subst e
    exact ⟨_, (o.gate p hp).1⟩
def Cs.vis (c : Cs) (i : Nat) (x : Str) : Bool :=
  decide (c.N[i]? = some x) && (match c.sc.names.lookup x with | some .local => true | some .cell => true | some .free => true | _ => false) && !(x == ("__debug__" : Str)) && !(x == ("__classdict__" : Str))
def Cs.loc (c : Cs) (i : Nat) (x : Str) : Bool :=
  decide (c.N[i]? = some x) && (match c.sc.names.lookup x with | some .local => true | some .cell => c.fn x | _ => false)
def Cs.glb (c : Cs) (x : Str) : Bool :=
  (match c.sc.names.lookup x with | some .globalImplicit => true | _ => false) && !(x == ("__debug__" : Str))
section
variable {c : Cs} {F : Fns} {G : List D} {X : Cx}
theorem Ok.units (o : Ok c F G X) : X.A.units + 200 < cLine := by
  obtain ⟨k, hr, _, _⟩ := o.quiet.ok
  have := hr.un; omega
theorem Ok.guards (o : Ok c F G X) : X.A.guards = some [] := by
  obtain ⟨k, _, h, _⟩ := o.quiet.ok
  exact h
theorem vis_ok (o : Ok c F G X) {i : Nat} {x : Str} (h : c.vis i x = true) : X.N[i]? = some x ∧ Vis X.env.scope x ∧ (x == ("__debug__" : Str)) = false ∧ (x == ("__classdict__" : Str)) = false := by
  simp only [Cs.vis, Bool.and_eq_true, decide_eq_true_eq, Bool.not_eq_true'] at h
  (obtain ⟨⟨⟨h1, h2⟩, h3⟩, h4⟩ := h)
  refine ⟨by rw [o.hN]; exact h1, ?_, h3, h4⟩
  unfold Vis
  rw [o.sc]
  split at h2
  · exact .inl (by assumption)
  · exact .inr (.inl (by assumption))
  · exact .inr (.inr (by assumption))
  · cases h2
theorem loc_ok (o : Ok c F G X) {i : Nat} {x : Str} (h : c.loc i x = true) : X.N[i]? = some x ∧ L2.Loc X.env.scope x ∧ (X.fn x = true ∨ X.env.scope.names.lookup x = some .local) := by
  simp only [Cs.loc, Bool.and_eq_true, decide_eq_true_eq] at h
  obtain ⟨h1, h2⟩ := h
  refine ⟨by rw [o.hN]; exact h1, ?_, ?_⟩
  · unfold L2.Loc
    rw [o.sc]
    split at h2
    · exact .inl (by assumption)
    · exact .inr (by assumption)
    · cases h2
  · rw [o.sc, o.fn]
    split at h2
    · exact .inr (by assumption)
    · exact .inl h2
    · cases h2
theorem glb_ok (o : Ok c F G X) {x : Str} (h : c.glb x = true) : Gl X x ∧ (x == ("__debug__" : Str)) = false := by
  simp only [Cs.glb, Bool.and_eq_true, Bool.not_eq_true'] at h
  refine ⟨?_, h.2⟩
  have h1 := h.1
  unfold Gl PySem.Env.kindOf
  rw [o.sc]
  split at h1
  · assumption
  · cases h1
end

/-! ### what a piece's proof gives -/
structure SE (X : Cx) (e : Expr) (p : P) : Prop where
  v : PE X e (tG X.K (rD X.K) p.v)
  t : PT X e (tG X.K rB p.t)
structure SEs (X : Cx) (es : List Expr) (p : PL) : Prop where
  l : PA X es (tG X.K (rDs X.K) p.l)
  nil : p.nil = es.isEmpty
  kw : ∀ kws : List Keyword, kws.map (·.value) = es → PK X kws (tG X.K (rDs X.K) p.l)
  an : ∀ pos, PE X (.BoolOp .And es pos) (tG X.K (rD X.K) p.an)
  on : ∀ pos, PE X (.BoolOp .Or es pos) (tG X.K (rD X.K) p.on)
  at_ : ∀ pos, PW X (.BoolOp .And es pos) (tG X.K rB p.at_)
  ot : ∀ pos, PW X (.BoolOp .Or es pos) (tG X.K rB p.ot)
section
variable {X : Cx} {e x a b : Expr} {p pa pb pc : P} {pos : Pos}
theorem tru_rel {K : PySem.W.Frag} {J : Jn} {h : Hh} {H : Hp} {d : D} {v : V} {b : Bool} (rh : RH K J h H) (r : RD K J H d v) (e : d.tru h = some b) : TruV K v H b := by
  cases d with
  | non => cases r; cases e; rfl
  | bl c => cases r; cases e; rfl
  | int i => cases r; cases e; rfl
  | str y =>
    cases r
    simp only [D.tru] at e
    split at e
    · rename_i hz; cases e; exact ⟨hz, rfl⟩
    · cases e
  | ftup xs => cases e
  | exc c => cases e
  | exf c f d => cases e
  | tup xs =>
    cases e
    obtain ⟨a, vs, rfl, hq, z, rr⟩ := r.tup_inv
    refine .inr (.inl ⟨vs, hq, ?_⟩)
    cases rr <;> rfl
  | lst xs =>
    cases e
    obtain ⟨a, vs, rfl, hq, z, rr⟩ := res_inv rh rfl r
    refine .inl ⟨vs, hq, ?_⟩
    cases rr <;> rfl
  | fz xs =>
    cases e
    obtain ⟨a, vs, rfl, hq, z, rr⟩ := res_inv rh rfl r
    refine .inl ⟨vs, hq, ?_⟩
    cases rr <;> rfl
  | ref i =>
    cases r with
    | ref q =>
      obtain ⟨o, u, h1, h2, h3⟩ := rh.at q
      simp only [D.tru, h1] at e
      cases h3 with
      | lst z rr => cases e; refine .inl ⟨_, .inl (.inl h2), ?_⟩; cases rr <;> rfl
      | dct z rr => cases e; refine .inr (.inr ⟨_, h2, ?_⟩); cases rr <;> rfl
/-- an expression whose test is its value's truth -/
theorem SE.plain {v : Env → Hh → R D} (hv : PE X x (tG X.K (rD X.K) v)) (he : ∀ whole, isTrue x X.env whole = (do let v ← whole; standAt x.pos; holding [v] (truthy v))) : SE X x (.plain v) := by
  refine ⟨hv, (pt_truth hv he).imp fun σ H Q ⟨ρ, h, J, re, rh, q⟩ => ?_⟩
  refine (Post.step (R1 := rD X.K) (f := v) re rh q).mono fun y H1 ⟨J1, h1, d, e1, re1, rh1, rd, q1⟩ => ?_
  obtain ⟨b, hb, q2⟩ := Post.opt rh1 q1
  exact ⟨b, tru_rel rh1 rd hb, q2 b rfl⟩
theorem SE.ofB {v : Env → Hh → R D} {t : Env → Hh → R Bool} (hv : PE X x (tG X.K (rD X.K) v)) (ht : PT X x (tG X.K rB t)) : SE X x ⟨v, t⟩ := ⟨hv, ht⟩

theorem se_var {i : Nat} {y : Str} {c : Cs} {F : Fns} {G : List D} (o : Ok c F G X) (h : c.vis i y = true) : SE X (.Name y pos) (evE F G (.var i)) := by
  obtain ⟨h1, h2, h3, h4⟩ := vis_ok o h
  refine SE.plain ((pe_var h1 h2 h3 h4).imp fun σ H Q ⟨ρ, hh, J, re, rh, q⟩ => ?_) (fun _ => rfl)
  cases e : ρ[i]? with
  | none => simp only [e] at q; exact False.elim q
  | some od =>
    cases od with
    | none => simp only [e] at q; exact False.elim q
    | some d =>
      simp only [e] at q
      obtain ⟨v, hv, rd⟩ := re.get i d e
      exact ⟨v, hv, q J H v Ext.refl rh rd⟩
def conM : D → Const → Bool
  | .non, .none => true
  | .bl a, .bool b => a == b
  | .int i, .int j => decide (i = j)
  | .str a, .str b => decide (a = b)
  | _, _ => false
theorem se_con {d : D} {k : Const} {n : Nat} {F : Fns} {G : List D} (h : conM d k = true) : SE X (.Constant k n pos) (evE F G (.con d)) := by
  refine SE.plain ?_ (fun _ => rfl)
  unfold conM at h
  split at h
  · exact pe_non.imp fun σ H Q ⟨ρ, hh, J, re, rh, q⟩ => q J H _ Ext.refl rh .non
  · have := beq_iff_eq.mp h; subst this
    exact pe_bl.imp fun σ H Q ⟨ρ, hh, J, re, rh, q⟩ => q J H _ Ext.refl rh (.bl _)
  · have := of_decide_eq_true h; subst this
    exact pe_int.imp fun σ H Q ⟨ρ, hh, J, re, rh, q⟩ => q J H _ Ext.refl rh (.int _)
  · have := of_decide_eq_true h; subst this
    exact pe_str.imp fun σ H Q ⟨ρ, hh, J, re, rh, q⟩ => q J H _ Ext.refl rh (.str _)
  · cases h
theorem se_glo {i : Nat} {y : Str} {c : Cs} {F : Fns} {G : List D} (o : Ok c F G X) (h : c.gn[i]? = some y) (hg : c.glb y = true) : SE X (.Name y pos) (evE F G (.glo i)) := by
  obtain ⟨h1, h2⟩ := glb_ok o hg
  refine SE.plain ?_ (fun _ => rfl)
  cases e : G[i]? with
  | none => exact ⟨fun pins s σ H Q I ⟨ρ, hh, J, re, rh, q⟩ => by exact False.elim q⟩
  | some d =>
    obtain ⟨v, u, hm, rv, rd⟩ := o.glo i y d h e
    exact (pe_glob h1 hm rv h2).imp fun σ H Q ⟨ρ, hh, J, re, rh, q⟩ => by
      exact q J H v Ext.refl rh (rd J H)

/-! ### operators -/
theorem se_bin' {op : Operator} {f : Hh → D → D → Option D} (ho : OpR X (binaryOp op) (rOp X.K f)) (ha : SE X a pa) (hb : SE X b pb) :
    SE X (.BinOp a op b pos) (.plain fun ρ h => (pa.v ρ h).bind fun x h1 => (pb.v ρ h1).bind fun y h2 => R.opt (f h2 x y) h2) := by
  refine SE.plain ((pe_op ho ha.v hb.v).imp fun σ H Q ⟨ρ, h, J, re, rh, q⟩ => ?_) (fun _ => rfl)
  refine (Post.step (R1 := rD X.K) (f := pa.v) re rh q).mono fun x H1 ⟨J1, h1, dx, e1, re1, rh1, rx, q1⟩ => ?_
  refine (Post.step (R1 := rD X.K) (f := pb.v) re1 rh1 q1).mono fun y H2 ⟨J2, h2, dy, e2, re2, rh2, ry, q2⟩ => ?_
  obtain ⟨d, hd, q3⟩ := Post.optX q2
  exact ⟨J2, h2, dx, dy, d, rh2, rx.ext e2, ry, hd, q3⟩
def bopM : BOp → Operator → Bool
  | .add, .Add => true
  | .sub, .Sub => true
  | .mul, .Mult => true
  | .fdiv, .FloorDiv => true
  | .mod, .Mod => true
  | .pow, .Pow => true
  | _, _ => false
theorem bopM_ok {o : BOp} {p : Operator} (h : bopM o p = true) : OpR X (binaryOp p) (rOp X.K (opBin o)) := by
  unfold bopM at h
  split at h
  · exact ops_add
  · exact ops_sub
  · exact ops_mul
  · exact ops_fdiv
  · exact ops_mod
  · exact ops_pow
  · cases h
def copM : COp → CmpOp → Bool
  | .eq, .Eq => true
  | .ne, .NotEq => true
  | .lt, .Lt => true
  | .le, .LtE => true
  | .gt, .Gt => true
  | .ge, .GtE => true
  | .inn, .In => true
  | .nin, .NotIn => true
  | .is, .Is => true
  | .isn, .IsNot => true
  | .deq, .Eq => true
  | _, _ => false
theorem copM_ok (hu : X.A.units + 200 < cLine) {o : COp} {p : CmpOp} (h : copM o p = true) : OpR X (compareOp p) (rCmp X.K (opCmp o)) := by
  unfold copM at h
  split at h
  · exact ops_eq (by omega)
  · exact ops_ne (by omega)
  · exact ops_lt
  · exact ops_le
  · exact ops_gt
  · exact ops_ge
  · exact ops_in (by omega)
  · exact ops_nin (by omega)
  · exact ops_is
  · exact ops_isn
  · exact ops_deq (by omega)
  · cases h
/-- a test that is known as a value -/
theorem pt_ofV {e : Expr} {r : TE} (h : PT X e (tTest r)) {t : L2.St → Hp → (Bool → Hp → Prop) → Prop} (i : ∀ σ H Q, t σ H Q → r σ H fun x H' => ∃ k, x = .bl k ∧ Q k H') : PT X e t := h.imp i
theorem se_cmp' {op : CmpOp} {f : Hh → D → D → Option Bool} (ho : OpR X (compareOp op) (rCmp X.K f)) (hp : plainX b = true) (ha : SE X a pa) (hb : SE X b pb) :
    SE X (.Compare a [op] [b] pos) (.plain fun ρ h => (pa.v ρ h).bind fun x h1 => (pb.v ρ h1).bind fun y h2 => R.opt ((f h2 x y).map D.bl) h2) := by
  have core : ∀ {σ : L2.St} {H : Hp} {ρ : Env} {h : Hh} {J : Jn} {Q : V → Hp → Prop} {α β : Type} {Rl : RelA α β} {g : D → Hh → R α} {Q' : β → Hp → Prop}, RE X.K J H ρ σ → RH X.K J h H →
      Post X.K J H Rl (((pa.v ρ h).bind fun x h1 => (pb.v ρ h1).bind fun y h2 => R.opt ((f h2 x y).map D.bl) h2).bind g) Q' →
      (∀ (k : Bool) (H' : Hp) (J' : Jn) (h' : Hh), RE X.K J' H' ρ σ → RH X.K J' h' H' → Post X.K J' H' Rl (g (.bl k) h') Q' → Q (.bl k) H') →
      tOp (rCmp X.K f) (tG X.K (rD X.K) pa.v) (tG X.K (rD X.K) pb.v) σ H Q := by
    intro σ H ρ h J Q α β Rl g Q' re rh q fin
    simp only [R.bind_assoc] at q
    refine (Post.step (R1 := rD X.K) (f := pa.v) re rh q).mono fun x H1 ⟨J1, h1, dx, e1, re1, rh1, rx, q1⟩ => ?_
    refine (Post.step (R1 := rD X.K) (f := pb.v) re1 rh1 q1).mono fun y H2 ⟨J2, h2, dy, e2, re2, rh2, ry, q2⟩ => ?_
    cases hd : f h2 dx dy with
    | none => rw [hd] at q2; exact False.elim q2
    | some k => rw [hd] at q2; exact ⟨J2, h2, dx, dy, k, rh2, rx.ext e2, ry, hd, fin k H2 J2 h2 re2 rh2 q2⟩
  refine ⟨(pe_cmpR ho ha.v hb.v (plain_mark hp _)).imp fun σ H Q ⟨ρ, h, J, re, rh, q⟩ => ?_, (pt_cmpR ho ha.v hb.v (plain_mark hp _)).imp fun σ H Q ⟨ρ, h, J, re, rh, q⟩ => ?_⟩
  · have as2 : ∀ r : R D, r = r.bind fun x h => .ok x h := fun r => by cases r <;> rfl
    dsimp only [P.plain] at q
    rw [as2 ((pa.v ρ h).bind _)] at q
    exact core re rh q fun k H' J' h' _ rh' q' => q' J' H' _ Ext.refl rh' (.bl k)
  · exact core re rh q fun k H' J' h' _ rh' q' => ⟨k, rfl, q' J' H' k Ext.refl rh' rfl⟩
end
end PV
end

section
set_option maxRecDepth 100000
namespace PV
open L2 PySem PySem.Spec PyProof.Rows
section
variable {X : Cx} {e x a b : Expr} {p pa pb pc : P} {pos : Pos}

/-! ### chains -/
theorem se_chain {op op' : CmpOp} {f f' : Hh → D → D → Option Bool} {c : Expr} (ho : OpR X (compareOp op) (rCmp X.K f)) (ho' : OpR X (compareOp op') (rCmp X.K f')) (hp : plainX c = true) (ha : SE X a pa) (hb : SE X b pb) (hc : SE X c pc) :
    SE X (.Compare a [op, op'] [b, c] pos) (.plain fun ρ h => (pa.v ρ h).bind fun x h1 => (pb.v ρ h1).bind fun y h2 => (R.opt (f h2 x y) h2).bind fun t h3 =>
      if t then (pc.v ρ h3).bind fun z h4 => R.opt ((f' h4 y z).map D.bl) h4 else .ok (.bl false) h3) := by
  have core : ∀ {σ : L2.St} {H : Hp} {ρ : Env} {h : Hh} {J : Jn} {Q : V → Hp → Prop} {α β : Type} {Rl : RelA α β} {g : D → Hh → R α} {Q' : β → Hp → Prop}, RE X.K J H ρ σ → RH X.K J h H →
      Post X.K J H Rl (((pa.v ρ h).bind fun x h1 => (pb.v ρ h1).bind fun y h2 => (R.opt (f h2 x y) h2).bind fun t h3 =>
      if t then (pc.v ρ h3).bind fun z h4 => R.opt ((f' h4 y z).map D.bl) h4 else .ok (.bl false) h3).bind g) Q' →
      (∀ (k : Bool) (H' : Hp) (J' : Jn) (h' : Hh), RE X.K J' H' ρ σ → RH X.K J' h' H' → Post X.K J' H' Rl (g (.bl k) h') Q' → Q (.bl k) H') →
      tChain (rCmp X.K f) (rCmp X.K f') (tG X.K (rD X.K) pa.v) (tG X.K (rD X.K) pb.v) (tG X.K (rD X.K) pc.v) σ H Q := by
    intro σ H ρ h J Q α β Rl g Q' re rh q fin
    simp only [R.bind_assoc] at q
    refine (Post.step (R1 := rD X.K) (f := pa.v) re rh q).mono fun x H1 ⟨J1, h1, dx, e1, re1, rh1, rx, q1⟩ => ?_
    refine (Post.step (R1 := rD X.K) (f := pb.v) re1 rh1 q1).mono fun y H2 ⟨J2, h2, dy, e2, re2, rh2, ry, q2⟩ => ?_
    cases hd : f h2 dx dy with
    | none => rw [hd] at q2; exact False.elim q2
    | some k =>
      rw [hd] at q2
      refine ⟨J2, h2, dx, dy, k, rh2, rx.ext e2, ry, hd, k, rfl, ?_⟩
      cases k with
      | false => exact fin false H2 J2 h2 re2 rh2 q2
      | true =>
        simp only [R.opt_some, R.bind_ok, if_true, R.bind_assoc] at q2 ⊢
        refine (Post.step (R1 := rD X.K) (f := pc.v) re2 rh2 q2).mono fun z H3 ⟨J3, h3, dz, e3, re3, rh3, rz, q3⟩ => ?_
        cases hd' : f' h3 dy dz with
        | none => rw [hd'] at q3; exact False.elim q3
        | some k' => rw [hd'] at q3; exact ⟨J3, h3, dy, dz, k', rh3, ry.ext e3, rz, hd', fin k' H3 J3 h3 re3 rh3 q3⟩
  have hm : lastMarks [op, op'] [b, c] = false := plain_mark hp _
  refine ⟨(pe_chain ho ho' ha.v hb.v hc.v hm).imp fun σ H Q ⟨ρ, h, J, re, rh, q⟩ => ?_, (pt_chain ho ho' ha.v hb.v hc.v hm).imp fun σ H Q ⟨ρ, h, J, re, rh, q⟩ => ?_⟩
  · have as2 : ∀ r : R D, r = r.bind fun x h => .ok x h := fun r => by cases r <;> rfl
    dsimp only [P.plain] at q
    rw [as2 ((pa.v ρ h).bind _)] at q
    exact core re rh q fun k H' J' h' _ rh' q' => q' J' H' _ Ext.refl rh' (.bl k)
  · exact core re rh q fun k H' J' h' _ rh' q' => ⟨k, rfl, q' J' H' k Ext.refl rh' rfl⟩

/-! ### and, or, not -/
theorem vBl_inv {α β : Type} {Rl : RelA α β} {J : Jn} {H : Hp} {d : D} {v : V} {h : Hh} {g : Bool → Hh → R α} {Q : β → Hp → Prop} (r : RD X.K J H d v) (q : Post X.K J H Rl ((vBl d h).bind g) Q) : ∃ t, v = .bl t ∧ Post X.K J H Rl (g t h) Q := by
  cases d with
  | bl t => exact ⟨t, r.bl_inv, q⟩
  | _ => exact False.elim q
theorem isEmpty_cons_false {es : List Expr} (h : es.isEmpty = false) : ∃ b r, es = b :: r := by
  cases es with
  | nil => cases h
  | cons b r => exact ⟨b, r, rfl⟩
theorem ses_nil : SEs X [] ⟨true, fun _ h => .ok [] h, fun _ _ => .bad, fun _ _ => .bad, fun _ _ => .bad, fun _ _ => .bad⟩ where
  l := pa_nil.imp fun σ H Q ⟨ρ, h, J, re, rh, q⟩ => q J H [] Ext.refl rh .nil
  nil := rfl
  kw := fun kws e => by
    cases kws with
    | nil => exact ⟨fun pos pins s σ H Q I ⟨ρ, h, J, re, rh, q⟩ => pk_nil.run pos pins s σ H Q I (q J H [] Ext.refl rh .nil)⟩
    | cons _ _ => cases e
  an := fun _ => ⟨fun _ _ _ _ _ _ ⟨_, _, _, _, _, q⟩ => False.elim q⟩
  on := fun _ => ⟨fun _ _ _ _ _ _ ⟨_, _, _, _, _, q⟩ => False.elim q⟩
  at_ := fun _ => ⟨fun _ _ _ _ _ _ _ ⟨_, _, _, _, _, q⟩ => False.elim q⟩
  ot := fun _ => ⟨fun _ _ _ _ _ _ _ ⟨_, _, _, _, _, q⟩ => False.elim q⟩
/-- and, of one and more -/
theorem pe_andV {es : List Expr} {pl : PL} (ha : SE X a pa) (hl : SEs X es pl) (hn : es.isEmpty = false) :
    PE X (.BoolOp .And (a :: es) pos) (tG X.K (rD X.K) fun ρ h => (pa.v ρ h).bind fun x h1 => (vBl x h1).bind fun t h2 => if t then pl.an ρ h2 else .ok (.bl false) h2) := by
  obtain ⟨b, r, rfl⟩ := isEmpty_cons_false hn
  refine (pe_and ha.v (hl.an pos)).imp fun σ H Q ⟨ρ, h, J, re, rh, q⟩ => ?_
  refine (Post.step (R1 := rD X.K) (f := pa.v) re rh q).mono fun x H1 ⟨J1, h1, dx, e1, re1, rh1, rx, q1⟩ => ?_
  obtain ⟨t, rfl, q2⟩ := vBl_inv rx q1
  refine ⟨t, rfl, ?_⟩
  cases t with
  | true => exact ⟨ρ, h1, J1, re1, rh1, q2⟩
  | false => exact q2 J1 H1 _ Ext.refl rh1 (.bl false)
theorem pe_orV {es : List Expr} {pl : PL} (ha : SE X a pa) (hl : SEs X es pl) (hn : es.isEmpty = false) :
    PE X (.BoolOp .Or (a :: es) pos) (tG X.K (rD X.K) fun ρ h => (pa.v ρ h).bind fun x h1 => (vBl x h1).bind fun t h2 => if t then .ok (.bl true) h2 else pl.on ρ h2) := by
  obtain ⟨b, r, rfl⟩ := isEmpty_cons_false hn
  refine (pe_or ha.v (hl.on pos)).imp fun σ H Q ⟨ρ, h, J, re, rh, q⟩ => ?_
  refine (Post.step (R1 := rD X.K) (f := pa.v) re rh q).mono fun x H1 ⟨J1, h1, dx, e1, re1, rh1, rx, q1⟩ => ?_
  obtain ⟨t, rfl, q2⟩ := vBl_inv rx q1
  refine ⟨t, rfl, ?_⟩
  cases t with
  | false => exact ⟨ρ, h1, J1, re1, rh1, q2⟩
  | true => exact q2 J1 H1 _ Ext.refl rh1 (.bl true)
theorem pw_andV {es : List Expr} {pl : PL} (ha : SE X a pa) (hl : SEs X es pl) (hn : es.isEmpty = false) :
    PW X (.BoolOp .And (a :: es) pos) (tG X.K rB fun ρ h => (pa.t ρ h).bind fun t h1 => if t then pl.at_ ρ h1 else .ok false h1) := by
  obtain ⟨b, r, rfl⟩ := isEmpty_cons_false hn
  refine (pw_and ha.t (hl.at_ pos)).imp fun σ H Q ⟨ρ, h, J, re, rh, q⟩ => ?_
  refine (Post.step (R1 := rB) (f := pa.t) re rh q).mono fun x H1 ⟨J1, h1, t, e1, re1, rh1, rx, q1⟩ => ?_
  have rx : t = x := rx
  subst rx
  cases t with
  | true => exact ⟨ρ, h1, J1, re1, rh1, q1⟩
  | false => exact q1 J1 H1 _ Ext.refl rh1 rfl
theorem pw_orV {es : List Expr} {pl : PL} (ha : SE X a pa) (hl : SEs X es pl) (hn : es.isEmpty = false) :
    PW X (.BoolOp .Or (a :: es) pos) (tG X.K rB fun ρ h => (pa.t ρ h).bind fun t h1 => if t then .ok true h1 else pl.ot ρ h1) := by
  obtain ⟨b, r, rfl⟩ := isEmpty_cons_false hn
  refine (pw_or ha.t (hl.ot pos)).imp fun σ H Q ⟨ρ, h, J, re, rh, q⟩ => ?_
  refine (Post.step (R1 := rB) (f := pa.t) re rh q).mono fun x H1 ⟨J1, h1, t, e1, re1, rh1, rx, q1⟩ => ?_
  have rx : t = x := rx
  subst rx
  cases t with
  | false => exact ⟨ρ, h1, J1, re1, rh1, q1⟩
  | true => exact q1 J1 H1 _ Ext.refl rh1 rfl
theorem ses_cons {es : List Expr} {pl : PL} (hp : plainX a = true) (ha : SE X a pa) (hl : SEs X es pl) : SEs X (a :: es) ⟨false,
      fun ρ h => (pa.v ρ h).bind fun x h1 => (pl.l ρ h1).bind fun xs h2 => .ok (x :: xs) h2,
      fun ρ h => if pl.nil then pa.v ρ h else (pa.v ρ h).bind fun x h1 => (vBl x h1).bind fun t h2 => if t then pl.an ρ h2 else .ok (.bl false) h2,
      fun ρ h => if pl.nil then pa.v ρ h else (pa.v ρ h).bind fun x h1 => (vBl x h1).bind fun t h2 => if t then .ok (.bl true) h2 else pl.on ρ h2,
      fun ρ h => if pl.nil then pa.t ρ h else (pa.t ρ h).bind fun t h1 => if t then pl.at_ ρ h1 else .ok false h1,
      fun ρ h => if pl.nil then pa.t ρ h else (pa.t ρ h).bind fun t h1 => if t then .ok true h1 else pl.ot ρ h1⟩ := by
  refine ⟨(pa_cons ha.v hl.l (plain_star hp _ _)).imp fun σ H Q ⟨ρ, h, J, re, rh, q⟩ => ?_, rfl, fun kws ek => ?_, fun pos => ?_, fun pos => ?_, fun pos => ?_, fun pos => ?_⟩
  · refine (Post.step (R1 := rD X.K) (f := pa.v) re rh q).mono fun x H1 ⟨J1, h1, dx, e1, re1, rh1, rx, q1⟩ => ?_
    refine (Post.step (R1 := rDs X.K) (f := pl.l) re1 rh1 q1).mono fun xs H2 ⟨J2, h2, ds, e2, re2, rh2, rs, q2⟩ => ?_
    exact q2 J2 H2 _ Ext.refl rh2 (.cons (rx.ext e2) rs)
  · cases kws with
    | nil => cases ek
    | cons k kws =>
      obtain ⟨nm, e, kp⟩ := k
      simp only [List.map_cons, List.cons.injEq] at ek
      obtain ⟨rfl, ek⟩ := ek
      refine ⟨fun pos pins s σ H Q I ⟨ρ, h, J, re, rh, q⟩ => (pk_cons ha.v (hl.kw kws ek)).run pos pins s σ H Q I ?_⟩
      refine (Post.step (R1 := rD X.K) (f := pa.v) re rh q).mono fun x H1 ⟨J1, h1, dx, e1, re1, rh1, rx, q1⟩ => ?_
      refine (Post.step (R1 := rDs X.K) (f := pl.l) re1 rh1 q1).mono fun xs H2 ⟨J2, h2, ds, e2, re2, rh2, rs, q2⟩ => ?_
      exact q2 J2 H2 _ Ext.refl rh2 (.cons (rx.ext e2) rs)
  all_goals
    cases hn : es.isEmpty with
    | true =>
      have he : es = [] := by cases es with | nil => rfl | cons _ _ => cases hn
      subst he
      simp only [hl.nil, hn, if_true]
      first | exact pe_one ha.v | exact pw_and1 ha.t | exact pw_or1 ha.t
    | false =>
      simp only [hl.nil, hn, Bool.false_eq_true, if_false]
      first | exact pe_andV ha hl hn | exact pe_orV ha hl hn | exact pw_andV ha hl hn | exact pw_orV ha hl hn
theorem se_and {es : List Expr} {pl : PL} (ha : SE X a pa) (hl : SEs X es pl) (hn : es.isEmpty = false) : SE X (.BoolOp .And (a :: es) pos) ⟨fun ρ h => (pa.v ρ h).bind fun x h1 => (vBl x h1).bind fun t h2 => if t then pl.an ρ h2 else .ok (.bl false) h2,
    fun ρ h => (pa.t ρ h).bind fun t h1 => if t then pl.at_ ρ h1 else .ok false h1⟩ := ⟨pe_andV ha hl hn, (pw_andV ha hl hn).pt⟩
theorem se_or {es : List Expr} {pl : PL} (ha : SE X a pa) (hl : SEs X es pl) (hn : es.isEmpty = false) : SE X (.BoolOp .Or (a :: es) pos) ⟨fun ρ h => (pa.v ρ h).bind fun x h1 => (vBl x h1).bind fun t h2 => if t then .ok (.bl true) h2 else pl.on ρ h2,
    fun ρ h => (pa.t ρ h).bind fun t h1 => if t then .ok true h1 else pl.ot ρ h1⟩ := ⟨pe_orV ha hl hn, (pw_orV ha hl hn).pt⟩
theorem se_not (ha : SE X a pa) : SE X (.UnaryOp .Not a pos) ⟨fun ρ h => (pa.v ρ h).bind fun x h1 => (vBl x h1).bind fun t h2 => .ok (.bl (!t)) h2, fun ρ h => (pa.t ρ h).bind fun t h1 => .ok (!t) h1⟩ := by
  refine ⟨(pe_not ha.v).imp fun σ H Q ⟨ρ, h, J, re, rh, q⟩ => ?_, (pt_not ha.t).imp fun σ H Q ⟨ρ, h, J, re, rh, q⟩ => ?_⟩
  · refine (Post.step (R1 := rD X.K) (f := pa.v) re rh q).mono fun x H1 ⟨J1, h1, dx, e1, re1, rh1, rx, q1⟩ => ?_
    obtain ⟨t, rfl, q2⟩ := vBl_inv rx q1
    exact ⟨t, rfl, q2 J1 H1 _ Ext.refl rh1 (.bl _)⟩
  · refine (Post.step (R1 := rB) (f := pa.t) re rh q).mono fun x H1 ⟨J1, h1, t, e1, re1, rh1, rx, q1⟩ => ?_
    cases rx
    exact q1 J1 H1 _ Ext.refl rh1 rfl
theorem se_neg (ha : SE X a pa) : SE X (.UnaryOp .USub a pos) (.plain fun ρ h => (pa.v ρ h).bind fun x h1 => R.opt (x.isInt.map fun i => .int (-i)) h1) := by
  refine SE.plain ((pe_un un_neg ha.v).imp fun σ H Q ⟨ρ, h, J, re, rh, q⟩ => ?_) (fun _ => rfl)
  refine (Post.step (R1 := rD X.K) (f := pa.v) re rh q).mono fun x H1 ⟨J1, h1, dx, e1, re1, rh1, rx, q1⟩ => ?_
  cases dx with
  | int i => exact ⟨i, rx.int_inv, q1 J1 H1 _ Ext.refl rh1 (.int _)⟩
  | _ => exact False.elim q1
theorem isTrue_if {c : Expr} {M : Model} {A : Around} {E : Value → Shared → Prop} {s : Shared} {env : PySem.Env} {whole : Sem Value} {Q : Bool → Shared → Prop}
    (h : wpAny M A (isTrue c env (eval c env)) (fun t s' => if t = true then wpAny M A (isTrue a env (eval a env)) Q E s' else wpAny M A (isTrue b env (eval b env)) Q E s') E s) : wpAny M A (isTrue (.IfExp c a b pos) env whole) Q E s := by
  show wpAny M A (do if ← isTrue c env (eval c env) then isTrue a env (eval a env) else isTrue b env (eval b env)) Q E s
  refine wpAny_bind (wpAny_mono h (fun t s' q => ?_) fun _ _ z => z)
  cases t with
  | true => exact q
  | false => exact q
theorem se_ite {c : Expr} (hc : SE X c pc) (ha : SE X a pa) (hb : SE X b pb) : SE X (.IfExp c a b pos) ⟨fun ρ h => (pc.t ρ h).bind fun t h1 => if t then pa.v ρ h1 else pb.v ρ h1, fun ρ h => (pc.t ρ h).bind fun t h1 => if t then pa.t ρ h1 else pb.t ρ h1⟩ := by
  refine ⟨(pe_ifExp hc.t ha.v hb.v).imp fun σ H Q ⟨ρ, h, J, re, rh, q⟩ => ?_, ⟨fun pins s σ H Q I ⟨ρ, h, J, re, rh, q⟩ => isTrue_if ?_⟩⟩
  · refine (Post.step (R1 := rB) (f := pc.t) re rh q).mono fun x H1 ⟨J1, h1, t, e1, re1, rh1, rx, q1⟩ => ?_
    have rx : t = x := rx
    subst rx
    cases t with
    | true => exact ⟨ρ, h1, J1, re1, rh1, q1⟩
    | false => exact ⟨ρ, h1, J1, re1, rh1, q1⟩
  · refine thn (hc.t.run pins s σ H _ I (Post.step (R1 := rB) (f := pc.t) re rh q)) fun t s' ⟨H1, I1, J1, h1, t', e1, re1, rh1, rx, q1⟩ => ?_
    have rx : t' = t := rx
    subst rx
    cases t' with
    | true => exact ha.t.run pins s' σ H1 Q I1 ⟨ρ, h1, J1, re1, rh1, q1⟩
    | false => exact hb.t.run pins s' σ H1 Q I1 ⟨ρ, h1, J1, re1, rh1, q1⟩

/-! ### subscripts, slices, displays -/
theorem se_idx (hu : X.A.units + 200 < cLine) (hp : plainX b = true) (ha : SE X a pa) (hb : SE X b pb) : SE X (.Subscript a b pos) (.plain fun ρ h => (pa.v ρ h).bind fun x h1 => (pb.v ρ h1).bind fun y h2 => R.opt (opIdx h2 x y) h2) := by
  refine SE.plain ((pe_ix (ix_all (by omega)) ha.v hb.v (plain_ix hp)).imp fun σ H Q ⟨ρ, h, J, re, rh, q⟩ => ?_) (fun _ => rfl)
  refine (Post.step (R1 := rD X.K) (f := pa.v) re rh q).mono fun x H1 ⟨J1, h1, dx, e1, re1, rh1, rx, q1⟩ => ?_
  refine (Post.step (R1 := rD X.K) (f := pb.v) re1 rh1 q1).mono fun y H2 ⟨J2, h2, dy, e2, re2, rh2, ry, q2⟩ => ?_
  obtain ⟨d, hd, q3⟩ := Post.optX q2
  exact ⟨J2, h2, dx, dy, d, rh2, rx.ext e2, ry, hd, q3⟩
abbrev rO : RelA (Option Int) (Option Int) := fun _ _ a b => a = b
theorem so_none {pl : P} : PO X none (tG X.K rO (vPart true pl)) :=
  ⟨fun pins s σ H Q I ⟨ρ, h, J, re, rh, q⟩ => po_none.run pins s σ H Q I (q J H none Ext.refl rh rfl)⟩
theorem so_some (ha : SE X a pa) : PO X (some a) (tG X.K rO (vPart false pa)) := by
  refine ⟨fun pins s σ H Q I ⟨ρ, h, J, re, rh, q⟩ => (po_some ha.v).run pins s σ H Q I ?_⟩
  have q' : Post X.K J H rO ((pa.v ρ h).bind fun d h1 => R.opt (d.isInt.map some) h1) Q := q
  refine (Post.step (R1 := rD X.K) (f := pa.v) re rh q').mono fun x H1 ⟨J1, h1, d, e1, re1, rh1, rx, q1⟩ => ?_
  cases d with
  | int i => exact ⟨i, rx.int_inv, q1 J1 H1 _ Ext.refl rh1 rfl⟩
  | _ => exact False.elim q1
theorem se_slc {lo hi : Option Expr} {pl ph : P} {ml mh : Bool} {sp : Pos} (ha : SE X a pa) (hl : PO X lo (tG X.K rO (vPart ml pl))) (hh : PO X hi (tG X.K rO (vPart mh ph))) :
    SE X (.Subscript a (.Slice lo hi none sp) pos) (.plain fun ρ h => (pa.v ρ h).bind fun x h1 => (vPart ml pl ρ h1).bind fun l h2 => (vPart mh ph ρ h2).bind fun u h3 => R.opt (opSlc h3 x l u) h3) := by
  refine SE.plain ((pe_slice sl_all ha.v hl hh).imp fun σ H Q ⟨ρ, h, J, re, rh, q⟩ => ?_) (fun _ => rfl)
  refine (Post.step (R1 := rD X.K) (f := pa.v) re rh q).mono fun x H1 ⟨J1, h1, dx, e1, re1, rh1, rx, q1⟩ => ?_
  refine (Post.step (R1 := rO) (f := vPart ml pl) re1 rh1 q1).mono fun y H2 ⟨J2, h2, l, e2, re2, rh2, ry, q2⟩ => ?_
  refine (Post.step (R1 := rO) (f := vPart mh ph) re2 rh2 q2).mono fun z H3 ⟨J3, h3, u, e3, re3, rh3, rz, q3⟩ => ?_
  have ry : l = y := ry
  have rz : u = z := rz
  subst ry rz
  obtain ⟨d, hd, q4⟩ := Post.optX q3
  exact ⟨J3, h3, dx, d, rh3, (rx.ext e2).ext e3, hd, q4⟩
theorem se_tup {es : List Expr} {pl : PL} {k : Nat} (hl : SEs X es pl) : SE X (.Tuple es k pos) (.plain fun ρ h => (pl.l ρ h).bind fun xs h1 => if sizeOk xs.length then .ok (.tup xs) h1 else .bad) := by
  refine SE.plain ((pe_tup hl.l).imp fun σ H Q ⟨ρ, h, J, re, rh, q⟩ => ?_) (fun _ => rfl)
  refine (Post.step (R1 := rDs X.K) (f := pl.l) re rh q).mono fun xs H1 ⟨J1, h1, ds, e1, re1, rh1, rs, q1⟩ => ?_
  split at q1
  · rename_i hz
    have hz' : xs.length ≤ sizeLine := by rw [← rs.length]; exact size_of hz
    exact ⟨hz', fun p np => q1 _ _ _ (Ext.laid np) (rh1.laid np) (RD.newTup rh1 np rs hz')⟩
  · exact False.elim q1

/-! ### new lists -/
/-- a reading that ends in a new list -/
def tF (K : PySem.W.Frag) (v : Env → Hh → R D) : TE := fun σ H Q => ∃ ρ h J, RE K J H ρ σ ∧ RH K J h H ∧ match v ρ h with
  | .ok (.lst ds) h' => ∀ J' H' a vs, Ext J H ⟨J'.l, J.z⟩ H' → J'.z = a :: J.z → RH K J' h' H' → H' a = some (.lst vs) → vs.length ≤ sizeLine → RDs K J' H' ds vs → H a = none → Q (.ref a) H'
  | _ => False
theorem tF_of {K : PySem.W.Frag} {v : Env → Hh → R D} {σ : L2.St} {H : Hp} {Q : VK} (hl : ∀ ρ h d h', v ρ h = .ok d h' → ∃ ds, d = .lst ds) (t : tG K (rD K) v σ H Q) : tF K v σ H Q := by
  obtain ⟨ρ, h, J, re, rh, q⟩ := t
  refine ⟨ρ, h, J, re, rh, ?_⟩
  cases ev : v ρ h with
  | ok d h' =>
    rw [ev] at q
    obtain ⟨ds, rfl⟩ := hl ρ h d h' ev
    intro J' H' a vs e ez rh' ha hz rs na
    obtain ⟨l', z'⟩ := J'
    simp only at ez e
    subst ez
    exact q _ H' _ e (rh'.show_ (J := ⟨l', J.z⟩)) (.lst (rh'.apart a List.mem_cons_self) (fun z => rh.notz na z) ha hz (rs.sub (Sub.show_ (J := ⟨l', J.z⟩))))
  | bad => rw [ev] at q; exact q
  | err _ _ => rw [ev] at q; exact q
theorem tF_val {v : Env → Hh → R D} (hv : PE X e (tF X.K v)) (hl : ∀ ρ h d h', v ρ h = .ok d h' → ∃ ds, d = .lst ds) : PE X e (tG X.K (rD X.K) v) := hv.imp fun σ H Q t => tF_of hl t
theorem se_lstF {es : List Expr} {pl : PL} (hl : SEs X es pl) : PE X (.List es pos) (tF X.K fun ρ h => (pl.l ρ h).bind fun xs h1 => if sizeOk xs.length then .ok (.lst xs) h1 else .bad) := by
  refine (pe_lst hl.l).imp fun σ H Q ⟨ρ, h, J, re, rh, q⟩ => ?_
  refine ⟨ρ, h, J, re, rh, ?_⟩
  dsimp only at q
  cases ev : pl.l ρ h with
  | ok ds h1 =>
    rw [ev, R.bind_ok] at q
    split at q
    · rename_i ds' h1' heq
      split at heq
      · rename_i hz; cases heq
        intro J1 H1 vs e1 rh1 rs
        have hz' : vs.length ≤ sizeLine := by rw [← rs.length]; exact size_of hz
        refine ⟨hz', fun p np => ?_⟩
        refine q (J1.hide p) _ p vs ⟨rfl, ?_, ?_⟩ ?_ (rh1.hide np) upd_same hz' ((rs.sub (Sub.hide np)).ext (Ext.laid np)) ?_
        · exact e1.pre
        · intro a o n q; rw [upd_ne (ne_of_none (e1.keep a o n q) np)]; exact e1.keep a o n q
        · show p :: J1.z = p :: J.z; rw [e1.z]
        · cases hp : H p with
          | none => rfl
          | some u =>
            exfalso
            by_cases n : p ∈ J.l
            · obtain ⟨m, hm, _⟩ := e1.pre
              obtain ⟨u', h2⟩ := rh1.inl (a := p) (by rw [hm]; exact List.mem_append_left _ n)
              rw [np] at h2; cases h2
            · have := e1.keep p u n hp; rw [np] at this; cases this
      · cases heq
    · exact False.elim q
  | bad => rw [ev] at q; exact False.elim q
  | err _ _ => rw [ev] at q; exact False.elim q
theorem se_lst {es : List Expr} {pl : PL} (hl : SEs X es pl) : SE X (.List es pos) (.plain fun ρ h => (pl.l ρ h).bind fun xs h1 => if sizeOk xs.length then .ok (.lst xs) h1 else .bad) := by
  refine SE.plain (tF_val (se_lstF hl) fun ρ h d h' e => ?_) (fun _ => rfl)
  cases ev : pl.l ρ h with
  | ok ds h1 =>
    rw [ev, R.bind_ok] at e
    split at e
    · cases e; exact ⟨_, rfl⟩
    · cases e
  | bad => rw [ev] at e; cases e
  | err _ _ => rw [ev] at e; cases e
/-- .. that becomes an object -/
theorem tF_new {K : PySem.W.Frag} {v : Env → Hh → R D} {σ : L2.St} {H : Hp} {Q : VK} (t : tG K (rD K) (fun ρ h => (v ρ h).bind newObj) σ H Q) : tF K v σ H Q := by
  obtain ⟨ρ, h, J, re, rh, q⟩ := t
  refine ⟨ρ, h, J, re, rh, ?_⟩
  dsimp only at q
  cases ev : v ρ h with
  | ok d h' =>
    rw [ev, R.bind_ok] at q
    cases d with
    | lst ds =>
      intro J' H' a vs e ez rh' ha hz rs na
      obtain ⟨l', z'⟩ := J'
      simp only at ez e
      subst ez
      have rh2 : RH K (Jn.own ⟨l', J.z⟩ a) (h' ++ [.lst ds]) H' := rh'.own (J := ⟨l', J.z⟩) (fun z => rh.notz na z) ha (.lst hz rs)
      refine q _ H' _ (Ext.own (J' := ⟨l', J.z⟩) na e) rh2 (.ref ?_)
      show (l' ++ [a])[h'.length]? = some a
      have hl : l'.length = h'.length := rh'.len
      rw [← hl, List.getElem?_append_right (Nat.le_refl _)]; simp
    | _ => exact False.elim q
  | bad => rw [ev] at q; exact False.elim q
  | err _ _ => rw [ev] at q; exact False.elim q
theorem se_new {v : Env → Hh → R D} (hv : PE X e (tF X.K v)) (he : ∀ whole, isTrue e X.env whole = (do let v ← whole; standAt e.pos; holding [v] (truthy v))) : SE X e (.plain fun ρ h => (v ρ h).bind newObj) :=
  SE.plain (hv.imp fun σ H Q t => tF_new t) he
end
end PV
end

section
set_option maxRecDepth 100000
namespace PV
open L2 PySem PySem.Spec PyProof.Rows
mutual
theorem same_eq : ∀ x y : D, D.same x y = true → x = y
  | .non, y, h => by cases y <;> simp [D.same] at h; rfl
  | .bl a, y, h => by cases y <;> simp [D.same] at h; rw [h]
  | .int a, y, h => by cases y <;> simp [D.same] at h; rw [h]
  | .str a, y, h => by cases y <;> simp [D.same] at h; rw [h]
  | .ref a, y, h => by cases y <;> simp [D.same] at h; rw [h]
  | .tup a, y, h => by
    cases y with
    | tup b => simp only [D.same] at h; rw [sames_eq a b h]
    | _ => simp [D.same] at h
  | .lst a, y, h => by
    cases y with
    | lst b => simp only [D.same] at h; rw [sames_eq a b h]
    | _ => simp [D.same] at h
  | .ftup a, y, h => by cases y <;> simp [D.same] at h
  | .fz a, y, h => by
    cases y with
    | fz b => simp only [D.same] at h; rw [sames_eq a b h]
    | _ => simp [D.same] at h
theorem sames_eq : ∀ xs ys : List D, D.sames xs ys = true → xs = ys
  | [], [], _ => rfl
  | [], _ :: _, h => by simp [D.sames] at h
  | _ :: _, [], h => by simp [D.sames] at h
  | x :: xs, y :: ys, h => by
    simp only [D.sames, Bool.and_eq_true] at h
    rw [same_eq x y h.1, sames_eq xs ys h.2]
end
theorem Ext.sub {J J' : Jn} {H H' : Hp} (e : Ext J H J' H') : Sub J H J' H' := ⟨fun a o n m q => ⟨e.notin n q, by rw [e.z]; exact m, e.keep a o n q⟩, fun _ _ q => e.get q⟩
theorem Sub.trans {J J' J2 : Jn} {H H' H2 : Hp} (e : Sub J H J' H') (f : Sub J' H' J2 H2) : Sub J H J2 H2 :=
  ⟨fun a o n m q => let ⟨x, y, z⟩ := e.l a o n m q; f.l a o x y z, fun i a q => f.get i a (e.get i a q)⟩
theorem Sub.refl {J : Jn} {H : Hp} : Sub J H J H := ⟨fun a o n m q => ⟨n, m, q⟩, fun _ _ q => q⟩

/-! ### iterators -/
structure ItOk (K : PySem.W.Frag) (J : Jn) (H : Hp) (it : It) (src : Src) : Prop where
  go : ∀ {J2 : Jn} {h2 : Hh} {H2 : Hp} {i : Nat} {d : D}, Sub J H J2 H2 → RH K J2 h2 H2 → src.good h2 = true → src.items[i]? = some d → it.go i H2 ∧ ∀ x H3, it.yld i H2 x H3 → Ext J2 H2 J2 H3 ∧ RH K J2 h2 H3 ∧ RD K J2 H3 d x
  stop : ∀ {J2 : Jn} {h2 : Hh} {H2 : Hp}, Sub J H J2 H2 → RH K J2 h2 H2 → src.good h2 = true → it.stop src.items.length H2
def tI (K : PySem.W.Frag) (f : Env → Hh → R Src) : TI := fun σ H Rr => ∃ ρ h J, RE K J H ρ σ ∧ RH K J h H ∧ match f ρ h with
  | .ok src h' => ∀ J' H' it, Ext J H J' H' → RH K J' h' H' → ItOk K J' H' it src → Rr it H'
  | _ => False
section
variable {X : Cx} {e x a b tg : Expr} {p pa pb pc : P} {pos : Pos} {K : PySem.W.Frag} {J : Jn} {H : Hp} {h : Hh}
theorem itl_ok {a : Addr} {ds : List D} {vs : List V} (st : ∀ {J2 : Jn} {H2 : Hp}, Sub J H J2 H2 → SqL K H2 a vs) (r : RDs K J H ds vs) : ItOk K J H (Itl K a) ⟨ds, none⟩ := by
  refine ⟨fun {J2 h2 H2 i d} s rh _ hd => ?_, fun {J2 h2 H2} s rh _ => ⟨vs, st s, by rw [r.length]; exact Nat.le_refl _⟩⟩
  obtain ⟨v, hv, rv⟩ := r.get hd
  refine ⟨⟨vs, v, st s, hv⟩, fun x H3 ⟨e1, e2⟩ => ?_⟩
  subst e1
  have := e2 vs (st s)
  rw [hv] at this; cases this
  exact ⟨Ext.refl, rh, rv.sub s⟩
theorem itt_ok {a : Addr} {ds : List D} {vs : List V} (q : ∀ {J2 : Jn} {H2 : Hp}, Sub J H J2 H2 → SqT K H2 a vs) (r : RDs K J H ds vs) : ItOk K J H (Itt K a) ⟨ds, none⟩ := by
  refine ⟨fun {J2 h2 H2 i d} s rh _ hd => ?_, fun {J2 h2 H2} s rh _ => ⟨vs, q s, by rw [r.length]; exact Nat.le_refl _⟩⟩
  obtain ⟨v, hv, rv⟩ := r.get hd
  refine ⟨⟨vs, v, q s, hv⟩, fun x H3 ⟨e1, e2⟩ => ?_⟩
  subst e1
  have := e2 vs (q s)
  rw [hv] at this; cases this
  exact ⟨Ext.refl, rh, rv.sub s⟩
theorem itl_ref {i : Nat} {a : Addr} {ds : List D} (q : J.l[i]? = some a) : ItOk K J H (Itl K a) ⟨ds, some i⟩ := by
  have st : ∀ {J2 h2 H2}, Sub J H J2 H2 → RH K J2 h2 H2 → Src.good ⟨ds, some i⟩ h2 = true → ∃ vs, SqL K H2 a vs ∧ RDs K J2 H2 ds vs := fun {J2 h2 H2} s rh g => by
    obtain ⟨o, u, h1, h2', h3⟩ := rh.at (s.get i a q)
    simp only [Src.good, h1] at g
    cases h3 with
    | lst z r => have e := sames_eq _ _ g; subst e; exact ⟨_, .inl (.inl h2'), r⟩
    | dct z r => cases g
  refine ⟨fun {J2 h2 H2 j d} s rh g hd => ?_, fun {J2 h2 H2} s rh g => ?_⟩
  · obtain ⟨vs, hq, r⟩ := st s rh g
    obtain ⟨v, hv, rv⟩ := r.get hd
    refine ⟨⟨vs, v, hq, hv⟩, fun x H3 ⟨e1, e2⟩ => ?_⟩
    subst e1
    have := e2 vs hq
    rw [hv] at this; cases this
    exact ⟨Ext.refl, rh, rv⟩
  · obtain ⟨vs, hq, r⟩ := st s rh g
    exact ⟨vs, hq, by rw [r.length]; exact Nat.le_refl _⟩
theorem itr_ok {lo hi : Int} : ItOk K J H (Itr lo (hi - lo).toNat) ⟨rngD lo hi, none⟩ := by
  have hl : (rngD lo hi).length = (hi - lo).toNat := by simp [rngD]
  refine ⟨fun {J2 h2 H2 i d} s rh _ hd => ?_, fun {J2 h2 H2} s rh _ => by show _ ≤ _; rw [hl]; exact Nat.le_refl _⟩
  have hi' : i < (hi - lo).toNat := by rw [← hl]; exact (List.getElem?_eq_some_iff.mp hd).1
  refine ⟨hi', fun x H3 ⟨e1, e2⟩ => ?_⟩
  subst e1 e2
  refine ⟨Ext.refl, rh, ?_⟩
  simp only [rngD, List.getElem?_map, List.getElem?_range hi', Option.map_some, Option.some.injEq] at hd
  subst hd
  exact .int _
/-- the items that a value gives -/
theorem tup_st {ds : List D} {v : V} (r : RD K J H (.tup ds) v) : ∃ a vs, v = .ref a ∧ (∀ {J2 : Jn} {H2 : Hp}, Sub J H J2 H2 → SqT K H2 a vs) ∧ vs.length ≤ sizeLine ∧ RDs K J H ds vs := by
  cases r with
  | tup n m q z r => exact ⟨_, _, rfl, fun s => .inl (.inl (s.l _ _ n m q).2.2), z, r⟩
  | ktup k z r => exact ⟨_, _, rfl, fun _ => .inr k, z, r⟩
theorem lst_st {d : D} {ds : List D} {v : V} (hd : d = .lst ds ∨ d = .fz ds) (r : RD K J H d v) : ∃ a vs, v = .ref a ∧ (∀ {J2 : Jn} {H2 : Hp}, Sub J H J2 H2 → SqL K H2 a vs) ∧ vs.length ≤ sizeLine ∧ RDs K J H ds vs := by
  rcases hd with rfl | rfl
  · cases r with | lst n m q z r => exact ⟨_, _, rfl, fun s => .inl (.inl (s.l _ _ n m q).2.2), z, r⟩
  · cases r with
    | fz n m q z r => exact ⟨_, _, rfl, fun s => .inl (.inr ⟨_, (s.l _ _ n m q).2.2⟩), z, r⟩
    | kfz k z r => exact ⟨_, _, rfl, fun _ => .inr k, z, r⟩
theorem ftup_st {K : PySem.W.Frag} {J : Jn} {H : Hp} {ds : List D} {v : V} (r : RD K J H (.ftup ds) v) : ∃ p vs, v = .ref p ∧ (∀ {J2 : Jn} {H2 : Hp}, Sub J H J2 H2 → SqT K H2 p vs) ∧ vs.length ≤ sizeLine ∧ RDs K J H ds vs := by
  cases r with
  | ft n m q c d z rr => exact ⟨_, _, rfl, fun s => .inl (.inr ⟨_, (s.l _ _ n m q).2.2⟩), z, rr⟩
theorem PI.or {t u : TI} (h : PI X tg e t) (h' : PI X tg e u) : PI X tg e (fun σ H R => t σ H R ∨ u σ H R) := ⟨fun p s σ H R I q => q.elim (h.run p s σ H R I) (h'.run p s σ H R I)⟩
/-- a value that is walked: a list or a tuple -/
theorem pi_any (ha : PE X a (tG X.K (rD X.K) pa.v)) : PI X tg a (tI X.K fun ρ h => (pa.v ρ h).bind fun x h1 => R.opt (x.src h1) h1) := by
  refine ⟨fun pins s σ H Rr I ⟨ρ, h, J, re, rh, q⟩ => ?_⟩
  dsimp only at q
  cases ev : pa.v ρ h with
  | ok d h1 =>
    rw [ev, R.bind_ok] at q
    cases es : d.src h1 with
    | none => rw [es] at q; exact False.elim q
    | some src =>
      rw [es] at q
      have q : ∀ J' H' it, Ext J H J' H' → RH X.K J' h1 H' → ItOk X.K J' H' it src → Rr it H' := q
      have lists : (∃ ds, (d = .lst ds ∨ d = .fz ds) ∧ src = ⟨ds, none⟩) → wpAny (model X.prog X.w) X.A (eval a X.env) (fun v s1 => wpAny (model X.prog X.w) X.A (pyIter v) (PIE X pins σ tg Rr) X.xe s1) X.xe s := by
        rintro ⟨ds, hd, rfl⟩
        refine (pi_list ha).run pins s σ H Rr I ⟨ρ, h, J, re, rh, ?_⟩
        rw [ev]
        intro J' H' v e1 rh' rv
        obtain ⟨p, vs, rfl, hq, z, rr⟩ := lst_st hd rv
        exact ⟨p, rfl, ⟨vs, hq Sub.refl⟩, q J' H' _ e1 rh' (itl_ok hq rr)⟩
      cases d with
      | lst ds => cases es; exact lists ⟨ds, .inl rfl, rfl⟩
      | fz ds => cases es; exact lists ⟨ds, .inr rfl, rfl⟩
      | tup ds =>
        cases es
        refine (pi_tup ha).run pins s σ H Rr I ⟨ρ, h, J, re, rh, ?_⟩
        rw [ev]
        intro J' H' v e1 rh' rv
        obtain ⟨p, vs, rfl, hq, z, rr⟩ := tup_st rv
        exact ⟨p, rfl, ⟨vs, hq Sub.refl⟩, q J' H' _ e1 rh' (itt_ok hq rr)⟩
      | ftup ds =>
        cases es
        refine (pi_tup ha).run pins s σ H Rr I ⟨ρ, h, J, re, rh, ?_⟩
        rw [ev]
        intro J' H' v e1 rh' rv
        obtain ⟨p, vs, rfl, hq, z, rr⟩ := ftup_st rv
        exact ⟨p, rfl, ⟨vs, hq Sub.refl⟩, q J' H' _ e1 rh' (itt_ok hq rr)⟩
      | ref i =>
        simp only [D.src] at es
        split at es
        · rename_i ys hys
          cases es
          refine (pi_list ha).run pins s σ H Rr I ⟨ρ, h, J, re, rh, ?_⟩
          rw [ev]
          intro J' H' v e1 rh' rv
          cases rv with
          | ref qi =>
            obtain ⟨o, u, h1', h2', h3⟩ := rh'.at qi
            rw [hys] at h1'; cases h1'
            cases h3 with
            | lst z rr => exact ⟨_, rfl, ⟨_, .inl (.inl h2')⟩, q J' H' _ e1 rh' (itl_ref qi)⟩
        · cases es
      | _ => cases es
  | bad => rw [ev] at q; exact False.elim q
  | err _ _ => rw [ev] at q; exact False.elim q
theorem rngOk_inv {i j : Int} (h : rngOk i j = true) : -(2 ^ 62) ≤ i ∧ i < 2 ^ 62 ∧ -(2 ^ 62) ≤ j ∧ j < 2 ^ 62 := by
  simp only [rngOk, Bool.and_eq_true, decide_eq_true_eq] at h
  exact ⟨h.1.1.1, h.1.1.2, h.1.2, h.2⟩
theorem R.step_inv {α β : Type} {r : R α} {f : α → Hh → R β} {P : R β → Prop} (q : P (r.bind f)) (hb : ¬ P .bad) (he : ∀ x h, ¬ P (.err x h)) : ∃ a h1, r = .ok a h1 ∧ P (f a h1) := by
  cases r with
  | ok a h1 => exact ⟨a, h1, rfl, q⟩
  | bad => exact absurd q hb
  | err x h => exact absurd q (he x h)
/-- what a walk's reading wants -/
def wI (K : PySem.W.Frag) (J : Jn) (H : Hp) (Rr : It → Hp → Prop) (r : R Src) : Prop := match r with
  | .ok src h' => ∀ J' H' it, Ext J H J' H' → RH K J' h' H' → ItOk K J' H' it src → Rr it H'
  | _ => False
theorem wI.step {α β : Type} {R1 : RelA α β} {f : Env → Hh → R α} {g : α → Hh → R Src} {Rr : It → Hp → Prop} {ρ : Env} {σ : L2.St} (re : RE K J H ρ σ) (rh : RH K J h H) (p : wI K J H Rr ((f ρ h).bind g)) :
    tG K R1 f σ H (fun b H1 => ∃ J1 h1 a, Ext J H J1 H1 ∧ RE K J1 H1 ρ σ ∧ RH K J1 h1 H1 ∧ R1 J1 H1 a b ∧ wI K J1 H1 Rr (g a h1)) := by
  refine ⟨ρ, h, J, re, rh, ?_⟩
  cases q : f ρ h with
  | ok a h1 =>
    rw [q, R.bind_ok] at p
    refine fun J1 H1 b e rh1 rl => ⟨J1, h1, a, e, re.ext e, rh1, rl, ?_⟩
    cases q2 : g a h1 with
    | ok src h2 => rw [q2] at p; exact fun J2 H2 it e2 rh2 ok => p J2 H2 it (e.trans rh rh1 e2) rh2 ok
    | bad => rw [q2] at p; exact p
    | err _ _ => rw [q2] at p; exact p
  | bad => rw [q] at p; exact p
  | err _ _ => rw [q] at p; exact p
theorem pi_rng {pp : Pos} (hg : Gl X "range") (hm : X.mg "range" = none) (hp : plainX a = true) (ha : SE X a pa) :
    PI X tg (.Call (.Name "range" pp) [a] [] pos) (tI X.K fun ρ h => (pa.v ρ h).bind fun x h1 => R.opt (x.isInt.bind fun n => if rngOk 0 n then some ⟨rngD 0 n, none⟩ else none) h1) := by
  have hs : starEach [a] X.env = [(false, eval a X.env)] := plain_star hp [] _
  refine (pi_range1 hg hm (pa_cons ha.v pa_nil hs) hs).imp fun σ H Rr ⟨ρ, h, J, re, rh, q⟩ => ?_
  refine (wI.step (R1 := rD X.K) (f := pa.v) re rh q).mono fun x H1 ⟨J1, h1, d, e1, re1, rh1, rx, q1⟩ => ?_
  cases d with
  | int n =>
    simp only [D.isInt, Option.bind_some] at q1
    split at q1
    · rename_i hz
      obtain ⟨_, _, z1, z2⟩ := rngOk_inv hz
      refine ⟨n, by rw [rx.int_inv], z1, z2, ?_⟩
      have := q1 J1 H1 (Itr 0 (n - 0).toNat) Ext.refl rh1 itr_ok
      rwa [Int.sub_zero] at this
    · exact False.elim q1
  | _ => exact False.elim q1
theorem pi_rng2 {pp : Pos} (hg : Gl X "range") (hm : X.mg "range" = none) (hp : plainX a = true) (hp2 : plainX b = true) (ha : SE X a pa) (hb : SE X b pb) :
    PI X tg (.Call (.Name "range" pp) [a, b] [] pos) (tI X.K fun ρ h => (pa.v ρ h).bind fun x h1 => (pb.v ρ h1).bind fun y h2 => R.opt (x.isInt.bind fun i => y.isInt.bind fun j => if rngOk i j then some ⟨rngD i j, none⟩ else none) h2) := by
  have hs2 : starEach [b] X.env = [(false, eval b X.env)] := plain_star hp2 [] _
  have hs : starEach [a, b] X.env = [(false, eval a X.env), (false, eval b X.env)] := by rw [plain_star hp, hs2]
  refine (pi_range2 hg hm (pa_cons ha.v (pa_cons hb.v pa_nil hs2) (plain_star hp _ _)) hs hs2).imp fun σ H Rr ⟨ρ, h, J, re, rh, q⟩ => ?_
  refine (wI.step (R1 := rD X.K) (f := pa.v) re rh q).mono fun x H1 ⟨J1, h1, d, e1, re1, rh1, rx, q1⟩ => ?_
  refine (wI.step (R1 := rD X.K) (f := pb.v) re1 rh1 q1).mono fun y H2 ⟨J2, h2, d2, e2, re2, rh2, ry, q2⟩ => ?_
  cases d with
  | int n =>
    cases d2 with
    | int m =>
      simp only [D.isInt, Option.bind_some] at q2
      split at q2
      · rename_i hz
        exact ⟨n, m, by rw [rx.int_inv, ry.int_inv], rngOk_inv hz, q2 J2 H2 _ Ext.refl rh2 itr_ok⟩
      · exact False.elim q2
    | _ => exact False.elim q2
  | _ => exact False.elim q2

theorem zipD_get {xs ys : List D} {i : Nat} {d : D} (e : (zipD xs ys)[i]? = some d) : ∃ x y, xs[i]? = some x ∧ ys[i]? = some y ∧ d = .tup [x, y] := by
  unfold zipD at e
  rw [List.getElem?_zipWith] at e
  split at e
  · rename_i x y hx hy; cases e; exact ⟨x, y, hx, hy, rfl⟩
  · cases e
theorem zipD_len (xs ys : List D) : xs.length ≤ (zipD xs ys).length ∨ ys.length ≤ (zipD xs ys).length := by
  unfold zipD; rw [List.length_zipWith]; omega
theorem two_ok {x y : V} : [x, y].length ≤ sizeLine := by show 2 ≤ sizeLine; decide
theorem itzT_ok {a b : Addr} {xs ys : List D} {vs ws : List V} (q : ∀ {J2 : Jn} {H2 : Hp}, Sub J H J2 H2 → SqT K H2 a vs) (r : RDs K J H xs vs) (q' : ∀ {J2 : Jn} {H2 : Hp}, Sub J H J2 H2 → SqT K H2 b ws) (r' : RDs K J H ys ws) :
    ItOk K J H (RZ.ItzT K a b) ⟨zipD xs ys, none⟩ := by
  refine ⟨fun {J2 h2 H2 i d} s rh _ hd => ?_, fun {J2 h2 H2} s rh _ => ⟨vs, ws, q s, q' s, by rw [← r.length, ← r'.length]; exact zipD_len xs ys⟩⟩
  obtain ⟨dx, dy, hx, hy, rfl⟩ := zipD_get hd
  obtain ⟨v, hv, rv⟩ := r.get hx
  obtain ⟨w, hw, rw'⟩ := r'.get hy
  refine ⟨⟨vs, ws, v, w, q s, q' s, hv, hw⟩, fun x H3 ⟨T, v', w', e1, nT, e2, f1, f2⟩ => ?_⟩
  have h1 := f1 vs (q s)
  have h2 := f2 ws (q' s)
  rw [hv] at h1; cases h1
  rw [hw] at h2; cases h2
  subst e1 e2
  exact ⟨Ext.laid nT, rh.laid nT, RD.newTup rh nT (.cons (rv.sub s) (.cons (rw'.sub s) .nil)) two_ok⟩
theorem itz_ok {a b : Addr} {xs ys : List D} {vs ws : List V} (q : ∀ {J2 : Jn} {H2 : Hp}, Sub J H J2 H2 → SqL K H2 a vs) (r : RDs K J H xs vs) (q' : ∀ {J2 : Jn} {H2 : Hp}, Sub J H J2 H2 → SqL K H2 b ws) (r' : RDs K J H ys ws) :
    ItOk K J H (Itz K a b) ⟨zipD xs ys, none⟩ := by
  refine ⟨fun {J2 h2 H2 i d} s rh _ hd => ?_, fun {J2 h2 H2} s rh _ => ⟨vs, ws, q s, q' s, by rw [← r.length, ← r'.length]; exact zipD_len xs ys⟩⟩
  obtain ⟨dx, dy, hx, hy, rfl⟩ := zipD_get hd
  obtain ⟨v, hv, rv⟩ := r.get hx
  obtain ⟨w, hw, rw'⟩ := r'.get hy
  refine ⟨⟨vs, ws, v, w, q s, q' s, hv, hw⟩, fun x H3 ⟨T, v', w', e1, nT, e2, f1, f2⟩ => ?_⟩
  have h1 := f1 vs (q s)
  have h2 := f2 ws (q' s)
  rw [hv] at h1; cases h1
  rw [hw] at h2; cases h2
  subst e1 e2
  exact ⟨Ext.laid nT, rh.laid nT, RD.newTup rh nT (.cons (rv.sub s) (.cons (rw'.sub s) .nil)) two_ok⟩
theorem lst_st2 {ds : List D} {v : V} (r : RD K J H (.lst ds) v) : ∃ a vs, v = .ref a ∧ (∀ {J2 : Jn} {H2 : Hp}, Sub J H J2 H2 → SqL K H2 a vs) ∧ RDs K J H ds vs := by
  cases r with | lst n m q z r => exact ⟨_, _, rfl, fun s => .inl (.inl (s.l _ _ n m q).2.2), r⟩
theorem pi_zipS {pp tp : Pos} {elts : List Expr} {kk : Nat} (hg : Gl X "zip") (hm : X.mg "zip" = none) (hp : plainX a = true) (hp2 : plainX b = true) (ha : SE X a pa) (hb : SE X b pb) :
    PI X (.Tuple elts kk tp) (.Call (.Name "zip" pp) [a, b] [] pos) (tI X.K fun ρ h => (pa.v ρ h).bind fun x h1 => (pb.v ρ h1).bind fun y h2 => R.opt (zipSrc x y) h2) := by
  have hs2 : starEach [b] X.env = (false, eval b X.env) :: starEach [] X.env := plain_star hp2 [] _
  refine (RZ.pi_zipA hg hm (pa_cons ha.v (pa_cons hb.v pa_nil hs2) (plain_star hp _ _)) (plain_star hp _ _) (by rw [hs2]; rfl)).imp fun σ H Rr ⟨ρ, h, J, re, rh, q⟩ => ?_
  refine (wI.step (R1 := rD X.K) (f := pa.v) re rh q).mono fun x H1 ⟨J1, h1, d, e1, re1, rh1, rx, q1⟩ => ?_
  refine (wI.step (R1 := rD X.K) (f := pb.v) re1 rh1 q1).mono fun y H2 ⟨J2, h2, d2, e2, re2, rh2, ry, q2⟩ => ?_
  have rx := rx.ext e2
  cases hz : zipSrc d d2 with
  | none => rw [hz] at q2; exact False.elim q2
  | some src =>
    rw [hz] at q2
    unfold zipSrc at hz
    split at hz
    · cases hz
      obtain ⟨p, vs, rfl, hq, z, rr⟩ := tup_st rx
      obtain ⟨p', ws, rfl, hq', z', rr'⟩ := tup_st ry
      exact ⟨p, p', vs, ws, rfl, .inr ⟨hq Sub.refl, hq' Sub.refl, q2 J2 H2 _ Ext.refl rh2 (itzT_ok hq rr hq' rr')⟩⟩
    · cases hz
      obtain ⟨p, vs, rfl, hq, rr⟩ := lst_st2 rx
      obtain ⟨p', ws, rfl, hq', rr'⟩ := lst_st2 ry
      exact ⟨p, p', vs, ws, rfl, .inl ⟨hq Sub.refl, hq' Sub.refl, q2 J2 H2 _ Ext.refl rh2 (itz_ok hq rr hq' rr')⟩⟩
    · cases hz
end
end PV
end

section
set_option maxRecDepth 100000
namespace PV
open L2 PySem PySem.Spec PyProof.Rows
section
variable {X : Cx} {e x a b tg : Expr} {p pa pb pc : P} {pos : Pos} {K : PySem.W.Frag} {J : Jn} {H : Hp} {h : Hh}

/-! ### targets -/
/-- storing an item -/
def gD (K : PySem.W.Frag) (t : Tg) (vs : List Nat) : TG := fun v σ H Q => ∃ ρ ρ' h J d, RE K J H ρ σ ∧ RH K J h H ∧ RD K J H d v ∧ t.put d ρ = some ρ' ∧ ∀ σ', RE K J H ρ' σ' → (∀ j, j ∉ vs → σ'[j]? = σ[j]?) → σ'.length = σ.length → Q σ' H
structure ST (X : Cx) (e : Expr) (t : Tg) (vs : List Nat) : Prop where
  run : PG X e (gD X.K t vs)
theorem st_v {i : Nat} {y : Str} (hN : X.N.Nodup) (hi : X.N[i]? = some y) (hx : L2.Loc X.env.scope y) (hf : X.fn y = true ∨ X.env.scope.names.lookup y = some .local) : ST X (.Name y pos) (.v i) [i] := by
  refine ⟨(pg_name hN hi hx hf).imp fun v σ H Q ⟨ρ, ρ', h, J, d, re, rh, rd, e, q⟩ => ?_⟩
  cases e
  exact q _ (re.set i rd) (fun j hj => by rw [List.getElem?_set_ne]; intro z; subst z; exact hj (by simp)) (by simp)
/-- several names -/
structure STs (X : Cx) (es : List Expr) (is : List Nat) : Prop where
  run : PGs X es (fun vs σ H Q => ∃ ρ ρ' h J ds, RE X.K J H ρ σ ∧ RH X.K J h H ∧ RDs X.K J H ds vs ∧ setAll is ds ρ = some ρ' ∧ ∀ σ', RE X.K J H ρ' σ' → (∀ j, j ∉ is → σ'[j]? = σ[j]?) → σ'.length = σ.length → Q σ' H)
  noStar : ∀ e ∈ es, ∃ y p, e = .Name y p
  len : es.length = is.length
theorem _root_.L2.PGs.imp {X : Cx} {e : List Expr} {t t' : TGs} (h : PGs X e t) (i : ∀ v σ H Q, t' v σ H Q → t v σ H Q) : PGs X e t' := ⟨fun p s σ H v u Q I r q => h.run p s σ H v u Q I r (i v σ H Q q)⟩
theorem sts_nil : STs X [] [] := by
  refine ⟨pgs_nil.imp fun v σ H Q ⟨ρ, ρ', h, J, ds, re, rh, rs, e, q⟩ => ?_, fun _ z => (by cases z), rfl⟩
  cases ds with
  | nil => cases rs; cases e; exact ⟨rfl, q _ re (fun _ _ => rfl) rfl⟩
  | cons _ _ => cases e
theorem sts_cons {i : Nat} {y : Str} {es : List Expr} {is : List Nat} (hN : X.N.Nodup) (hi : X.N[i]? = some y) (hx : L2.Loc X.env.scope y) (hf : X.fn y = true ∨ X.env.scope.names.lookup y = some .local) (hs : STs X es is) : STs X (.Name y pos :: es) (i :: is) := by
  refine ⟨(pgs_cons (pg_name (pos := pos) hN hi hx hf) hs.run rfl).imp fun v σ H Q ⟨ρ, ρ', h, J, ds, re, rh, rs, e, q⟩ => ?_, fun e he => ?_, by simp [hs.len]⟩
  · cases ds with
    | nil => cases e
    | cons d ds =>
      cases rs with
      | cons r t =>
        refine ⟨_, _, rfl, ?_⟩
        refine ⟨ρ.set i (some d), ρ', h, J, ds, re.set i r, rh, t, e, fun σ' re' hk hl => q σ' re' (fun j hj => ?_) (by rw [hl]; simp)⟩
        simp only [List.mem_cons, not_or] at hj
        rw [hk j hj.2, List.getElem?_set_ne (fun z => hj.1 z.symm)]
  · (rcases List.mem_cons.mp he with rfl | he)
    · exact ⟨_, _, rfl⟩
    · exact hs.noStar e he
theorem each_names : ∀ {es : List Expr} (env : PySem.Env), (∀ e ∈ es, ∃ y p, e = Expr.Name y p) → (assignEach es env).length = es.length ∧ (assignEach es env).findIdx? (·.1) = none
  | [], _, _ => ⟨rfl, rfl⟩
  | e :: es, env, h => by
    obtain ⟨y, p, rfl⟩ := h e List.mem_cons_self
    obtain ⟨h1, h2⟩ := each_names (es := es) env fun e he => h e (List.mem_cons_of_mem _ he)
    constructor
    · show (assignEach es env).length + 1 = es.length + 1
      rw [h1]
    · show ((false, assign (.Name y p) env) :: assignEach es env).findIdx? (·.1) = none
      rw [List.findIdx?_cons]
      simp [h2]
theorem setAll_len : ∀ {is : List Nat} {ds : List D} {ρ ρ' : Env}, setAll is ds ρ = some ρ' → ds.length = is.length
  | [], [], _, _, _ => rfl
  | [], _ :: _, _, _, h => by cases h
  | _ :: _, [], _, _, h => by cases h
  | i :: is, d :: ds, ρ, ρ', h => by simp [setAll_len (is := is) (ds := ds) h]
theorem st_tu {es : List Expr} {is : List Nat} {k : Nat} (hc : X.calm = true) (hs : STs X es is) : ST X (.Tuple es k pos) (.tu is) is := by
  obtain ⟨h1, h2⟩ := each_names X.env hs.noStar
  refine ⟨(pg_tup (n := is.length) hc hs.run (h1.trans hs.len) h2).imp fun v σ H Q ⟨ρ, ρ', h, J, d, re, rh, rd, e, q⟩ => ?_⟩
  cases d with
  | tup ds =>
    obtain ⟨a, vs, rfl, hq, z, rs⟩ := rd.tup_inv
    exact ⟨a, vs, rfl, hq, by rw [← rs.length]; exact setAll_len e, ρ, ρ', h, J, ds, re, rh, rs, e, q⟩
  | _ => cases e

/-! ### comprehensions -/
theorem wipe_get {σ : L2.St} : ∀ {vs : List Nat} {j : Nat}, j ∉ vs → (wipe σ vs)[j]? = σ[j]?
  | [], _, _ => rfl
  | v :: vs, j, h => by
    simp only [List.mem_cons, not_or] at h
    unfold wipe
    rw [List.getElem?_set_ne (fun z => h.1 z.symm), wipe_get h.2]
theorem wipe_in {σ : L2.St} : ∀ {vs : List Nat} {j : Nat}, j ∈ vs → j < σ.length → (wipe σ vs)[j]? = some none
  | v :: vs, j, h, hl => by
    unfold wipe
    by_cases hj : v = j
    · subst hj; rw [List.getElem?_set_self (by rw [wipe_length]; exact hl)]
    · rw [List.getElem?_set_ne hj]
      exact wipe_in ((List.mem_cons.mp h).resolve_left fun z => hj z.symm) hl
theorem wipe_same {σ σ' : L2.St} {vs : List Nat} (h : ∀ j, j ∉ vs → σ'[j]? = (wipe σ vs)[j]?) (hl : σ'.length = (wipe σ vs).length) : wipe σ' vs = wipe σ vs := by
  have hl2 : σ'.length = σ.length := by rw [hl, wipe_length]
  apply List.ext_getElem?
  intro j
  by_cases hj : j ∈ vs
  · by_cases hb : j < σ.length
    · rw [wipe_in hj (by rw [hl2]; exact hb), wipe_in hj hb]
    · rw [List.getElem?_eq_none (by rw [wipe_length, hl2]; omega), List.getElem?_eq_none (by rw [wipe_length]; omega)]
  · rw [wipe_get hj, h j hj]
/-- the names ahead of a comprehension, its own forgotten -/
def wipeD : List Nat → Env → Env
  | [], ρ => ρ
  | v :: vs, ρ => (wipeD vs ρ).set v none
theorem RE.wipe {ρ : Env} {σ : L2.St} (r : RE K J H ρ σ) : ∀ vs : List Nat, RE K J H (wipeD vs ρ) (wipe σ vs)
  | [] => r
  | v :: vs => by
    have ih := RE.wipe r vs
    unfold wipeD L2.wipe
    refine ⟨by simp [ih.len], fun j d q => ?_⟩
    by_cases hj : v = j
    · subst hj
      by_cases hl : v < (wipeD vs ρ).length
      · rw [List.getElem?_set_self hl] at q; cases q
      · rw [List.getElem?_eq_none (by simpa using hl)] at q; cases q
    · rw [List.getElem?_set_ne hj] at q
      obtain ⟨w, h1, h2⟩ := ih.get j d q
      exact ⟨w, by rw [List.getElem?_set_ne hj]; exact h1, h2⟩
theorem Sub.re {J J' : Jn} {H H' : Hp} {ρ : Env} {σ : L2.St} (s : Sub J H J' H') (r : RE K J H ρ σ) : RE K J' H' ρ σ := ⟨r.len, fun i d q => let ⟨v, a, b⟩ := r.get i d q; ⟨v, a, b.sub s⟩⟩
theorem setAll_of : ∀ {is : List Nat} {ds : List D} {ρ1 ρ2 : Env}, (∀ j, j ∉ is → ρ1[j]? = ρ2[j]?) → ρ1.length = ρ2.length → setAll is ds ρ1 = setAll is ds ρ2
  | [], [], ρ1, ρ2, h, _ => by
    have : ρ1 = ρ2 := List.ext_getElem? fun j => h j (by simp)
    rw [this]
  | [], _ :: _, _, _, _, _ => rfl
  | _ :: _, [], _, _, _, _ => rfl
  | i :: is, d :: ds, ρ1, ρ2, h, hl => by
    unfold setAll
    refine setAll_of (fun j hj => ?_) (by simp [hl])
    by_cases e : i = j
    · subst e
      rw [List.getElem?_set, List.getElem?_set, hl]
      simp
    · rw [List.getElem?_set_ne e, List.getElem?_set_ne e]
      exact h j (by simp only [List.mem_cons, not_or]; exact ⟨fun z => e z.symm, hj⟩)
theorem wipeD_get {ρ : Env} : ∀ {vs : List Nat} {j : Nat}, j ∉ vs → (wipeD vs ρ)[j]? = ρ[j]?
  | [], _, _ => rfl
  | v :: vs, j, h => by
    simp only [List.mem_cons, not_or] at h
    unfold wipeD
    rw [List.getElem?_set_ne (fun z => h.1 z.symm), wipeD_get h.2]
theorem wipeD_len {ρ : Env} : ∀ {vs : List Nat}, (wipeD vs ρ).length = ρ.length
  | [] => rfl
  | v :: vs => by unfold wipeD; rw [List.length_set, wipeD_len]
theorem put_wipe (t : Tg) (d : D) (ρ : Env) : t.put d (wipeD t.slots ρ) = t.put d ρ := by
  cases t with
  | v i => simp [Tg.put, Tg.slots, wipeD]
  | tu is =>
    unfold Tg.put Tg.slots
    cases d with
    | tup xs => exact setAll_of (fun j hj => wipeD_get hj) wipeD_len
    | _ => rfl
/-- the reading of a comprehension is what the rule wants -/
theorem lc_read {t : Tg} {f : Env → Hh → R Src} {pt pe : P} {σ : L2.St} {Q : VK} (hq : tF K (fun ρ h => (f ρ h).bind fun s h1 => if sizeOk s.items.length then lcLoop s.good (lcTurn t pt pe ρ) s.items [] h1 else .bad) σ H Q) :
    tLc (tI K f) (gD K t t.slots) (tG K rB pt.t) (tG K (rD K) pe.v) t.slots σ H Q := by
  obtain ⟨ρ, h, J, re, rh, q⟩ := hq
  refine ⟨ρ, h, J, re, rh, ?_⟩
  dsimp only at q
  cases ev : f ρ h with
  | bad => rw [ev] at q; exact q
  | err _ _ => rw [ev] at q; exact q
  | ok src h1 =>
    rw [ev, R.bind_ok] at q
    cases hsi : sizeOk src.items.length with
    | false => rw [hsi] at q; exact False.elim q
    | true =>
    rw [hsi] at q
    simp only [if_true] at q
    intro J1 H1 it e1 rh1 itok D nD
    have nDH : H D = none := by
      cases hp : H D with
      | none => rfl
      | some u =>
        exfalso
        by_cases n : D ∈ J.l
        · obtain ⟨m, hm, _⟩ := e1.pre
          obtain ⟨u', h2⟩ := rh1.inl (a := D) (by rw [hm]; exact List.mem_append_left _ n)
          rw [nD] at h2; cases h2
        · have := e1.keep D u n hp; rw [nD] at this; cases this
    -- the loop's word: so many items are gone, what is made so far lies at D
    let W : Nat → Nat → Hp → Prop := fun i m H2 => m = src.items.length - i ∧ i ≤ src.items.length ∧ ∃ J2 h2 acc vs, J2.z = D :: J.z ∧ Ext J H ⟨J2.l, J.z⟩ H2 ∧ Sub J1 H1 J2 H2 ∧ RH K J2 h2 H2 ∧ H2 D = some (.lst vs) ∧ vs.length ≤ i ∧ vs.length ≤ sizeLine ∧ RDs K J2 H2 acc vs ∧
      (match lcLoop src.good (lcTurn t pt pe ρ) (src.items.drop i) acc h2 with
        | .ok (.lst ds) h' => ∀ J' H' a vs, Ext J H ⟨J'.l, J.z⟩ H' → J'.z = a :: J.z → RH K J' h' H' → H' a = some (.lst vs) → vs.length ≤ sizeLine → RDs K J' H' ds vs → H a = none → Q (.ref a) H'
        | _ => False)
    refine ⟨W, ⟨src.items.length, by simp, Nat.zero_le _, J1.hide D, h1, [], [], by rw [← e1.z], ?_, (Sub.hide nD).trans (Ext.laid nD).sub, rh1.hide nD, upd_same, Nat.zero_le _, Nat.zero_le _, .nil, q⟩, fun i m H2 hW => ?_⟩
    · exact ⟨rfl, e1.pre, fun a o n q => by rw [upd_ne (ne_of_none (e1.keep a o n q) nD)]; exact e1.keep a o n q⟩
    · obtain ⟨rfl, hi', J2, h2, acc, vs, ez, e2, s2, rh2, hD, hv, hsz, rs, q⟩ := hW
      cases hd : src.items[i]? with
      | none =>
        -- the end
        have hlen : i = src.items.length := by have := List.getElem?_eq_none_iff.mp hd; omega
        subst hlen
        rw [List.drop_eq_nil_of_le (Nat.le_refl _)] at q
        unfold lcLoop at q
        split at q
        · rename_i ds h' heq
          split at heq
          · rename_i hgood
            cases heq
            exact .inl ⟨itok.stop s2 rh2 hgood, q J2 H2 D vs e2 ez rh2 hD hsz rs nDH⟩
          · cases heq
        · exact False.elim q
      | some d =>
        have hlt : i < src.items.length := (List.getElem?_eq_some_iff.mp hd).1
        rw [List.drop_eq_getElem_cons hlt] at q
        have hde : src.items[i] = d := by rw [List.getElem?_eq_getElem hlt] at hd; exact Option.some.inj hd
        rw [hde] at q
        unfold lcLoop at q
        cases hgood : src.good h2 with
        | false => rw [hgood] at q; exact False.elim q
        | true =>
          rw [hgood] at q
          simp only [if_true] at q
          obtain ⟨g1, g2⟩ := itok.go s2 rh2 hgood hd
          refine .inr ⟨g1, fun H' => ∃ m', m' < src.items.length - i ∧ W (i + 1) m' H', fun H' z => z, fun xv H3 y3 => ?_⟩
          obtain ⟨e3, rh3, rd3⟩ := g2 xv H3 y3
          have hD3 : H3 D = some (.lst vs) := e3.keep D _ (rh2.apart D (by rw [ez]; exact List.mem_cons_self)) hD
          cases ht2 : t.put d ρ with
          | none => simp only [lcTurn, ht2] at q
          | some ρ' =>
            simp only [lcTurn, ht2] at q
            have re3 : RE K J2 H3 ρ σ := (re.ext e1 |> Sub.re s2).ext e3
            have sub3 : Sub J1 H1 J2 H3 := s2.trans e3.sub
            have ext3 : Ext J H ⟨J2.l, J.z⟩ H3 := ⟨rfl, e2.pre, fun a o n q => e3.keep a o (e2.notin n q) (e2.keep a o n q)⟩
            refine ⟨_, ρ', h2, J2, d, re3.wipe _, rh3, rd3, by rw [put_wipe]; exact ht2, fun σ2 re4 hk hl => ⟨wipe_same hk hl, ?_⟩⟩
            -- the test, the element
            have nx : ∀ (J5 : Jn) (h5 : Hh) (H5 : Hp) (acc5 : List PV.D) (vs5 : List V), Ext J2 H3 J5 H5 → RH K J5 h5 H5 → (∀ u, Ext J H ⟨J5.l, J.z⟩ (upd H5 D u)) ∧ Sub J1 H1 J5 H5 := fun J5 h5 H5 acc5 vs5 e5 rh5 => by
              refine ⟨fun u => ⟨rfl, ?_, fun a o n q => ?_⟩, sub3.trans e5.sub⟩
              · obtain ⟨m1, hm1, f1⟩ := ext3.pre
                obtain ⟨m2, hm2, f2⟩ := e5.pre
                have hm1 : J2.l = J.l ++ m1 := hm1
                refine ⟨m1 ++ m2, by show J5.l = _; rw [hm2, hm1, List.append_assoc], fun a ha => ?_⟩
                rcases List.mem_append.mp ha with z | z
                · exact f1 a z
                · cases hp : H a with
                  | none => rfl
                  | some w =>
                    exfalso
                    by_cases n : a ∈ J.l
                    · obtain ⟨w', h2'⟩ := rh3.inl (a := a) (by rw [hm1]; exact List.mem_append_left _ n)
                      rw [f2 a z] at h2'; cases h2'
                    · have := ext3.keep a w n hp; rw [f2 a z] at this; cases this
              · have hne : a ≠ D := by rintro rfl; rw [nDH] at q; cases q
                rw [upd_ne hne]
                exact e5.keep a o (ext3.notin n q) (ext3.keep a o n q)
            refine ⟨ρ', h2, J2, re4, rh3, ?_⟩
            cases et : pt.t ρ' h2 with
            | bad => rw [et] at q; exact False.elim q
            | err _ _ => rw [et] at q; exact False.elim q
            | ok okb h3 =>
              rw [et, R.bind_ok] at q
              intro J4 H4 bb e4 rh4 hbb
              have hbb : okb = bb := hbb
              subst hbb
              have hD4 : H4 D = some (.lst vs) := e4.keep D _ (rh3.apart D (by rw [ez]; exact List.mem_cons_self)) hD3
              cases okb with
              | false =>
                simp only [Bool.false_eq_true, if_false] at q ⊢
                obtain ⟨n1, n2⟩ := nx J4 h3 H4 acc vs e4 rh4
                refine ⟨_, by omega, rfl, hlt, J4, h3, acc, vs, by rw [e4.z, ez], ?_, n2, rh4, hD4, by omega, hsz, (rs.ext e3).ext e4, q⟩
                have := n1 (.lst vs)
                have hu : upd H4 D (.lst vs) = H4 := by funext a; unfold upd; split <;> simp_all
                rwa [hu] at this
              | true =>
                simp only [if_true] at q ⊢
                refine ⟨ρ', h3, J4, re4.ext e4, rh4, ?_⟩
                cases ee : pe.v ρ' h3 with
                | bad => rw [ee] at q; exact False.elim q
                | err _ _ => rw [ee] at q; exact False.elim q
                | ok y h4 =>
                  rw [ee] at q
                  simp only [R.bind_ok] at q
                  intro J5 H5 yv e5 rh5 ry
                  have hz4 : D ∈ J4.z := by rw [e4.z, ez]; exact List.mem_cons_self
                  have hz5 : D ∈ J5.z := by rw [e5.z]; exact hz4
                  have hD5 : H5 D = some (.lst vs) := e5.keep D _ (rh4.apart D hz4) hD4
                  have e45 : Ext J2 H3 J5 H5 := e4.trans rh3 rh4 e5
                  obtain ⟨n1, n2⟩ := nx J5 h4 H5 acc vs e45 rh5
                  have hlen : vs.length < sizeLine := by have := size_of hsi; omega
                  refine ⟨vs, hD5, hlen, _, by omega, rfl, hlt, J5, h4, acc ++ [y], vs ++ [yv], by rw [e5.z, e4.z, ez], n1 _, n2.trans (Sub.writeZ hz5), rh5.writeZ hz5, upd_same, by simp; omega, by simp; omega, ?_, q⟩
                  exact (((rs.ext e3).ext e45).append (.cons ry .nil)).sub (Sub.writeZ hz5)
theorem se_lcF {elt iter : Expr} {ifs : List Expr} {scope : Scope} {own : List (Str × Nat)} {t : Tg} {f : Env → Hh → R Src} {pt pe : P} {tt : TT} (hc : X.calm = true) (hN : X.N.Nodup) (hi : PI X tg iter (tI X.K f)) (ok : BlkOk X.N X.env.scope scope own) (hown : own.map (·.2) = t.slots)
    (hg : ∀ (s : Shared) (H : Hp) (C : Addr) (cl : List (Str × Addr)) (fp : List Addr), ST (X.blk s H scope (compEnvC scope cl C X.env) fp) tg t t.slots)
    (ht : ∀ (s : Shared) (H : Hp) (C : Addr) (cl : List (Str × Addr)) (fp : List Addr), PTs (X.blk s H scope (compEnvC scope cl C X.env) fp) ifs (tG X.K rB pt.t))
    (he : ∀ (s : Shared) (H : Hp) (C : Addr) (cl : List (Str × Addr)) (fp : List Addr), PE (X.blk s H scope (compEnvC scope cl C X.env) fp) elt (tG X.K (rD X.K) pe.v)) (hs : ∀ x, foldedSetIterable iter X.env x = pure x) :
    PE X (.ListComp elt [⟨tg, iter, ifs, 0⟩] scope pos) (tF X.K fun ρ h => (f ρ h).bind fun s h1 => if sizeOk s.items.length then lcLoop s.good (lcTurn t pt pe ρ) s.items [] h1 else .bad) := by
  refine (pe_lc (g := gD X.K t t.slots) (tt := tG X.K rB pt.t) (te := tG X.K (rD X.K) pe.v) hc hN hi ok (fun s H C cl fp => (hg s H C cl fp).run) ht he hs).imp fun σ H Q q => ?_
  rw [hown]
  exact lc_read q
end
end PV
end

section
set_option maxRecDepth 100000
/-! PvY: a caught exception that stays known: the clause's name, its field, isinstance of it. -/
namespace PV
open PySem PySem.Spec PyProof.Rows L2 PV
theorem exD_ok {P : Program} {w : World} {H : Hp} {hp : Heap} {a : Addr} {cls : Value} {d : Option Addr} {ob : Obj} {fl : Array Value} (q : hp.get? a = some ob) (z : L2N.Zn cls d ob) (r : ob.data = .fields fl) : ObjOk P w H hp a (ExD cls d a) :=
  ⟨⟨ob, fl, q, z, r⟩, ⟨ob, q⟩, fun _ _ ⟨ob2, fl2, q2, z2, r2⟩ keep => ⟨ob2, fl2, keep ob2 q2, z2, r2⟩⟩
section
variable {X : Cx} {pins : List (Addr × Obj)} {σ : L2.St} {H : Hp} {s t : Shared} {a : Addr} {cls : Value} {d : Option Addr} {B : Heap}
/-- the exception as it lies before a clause -/
structure Seen (X : Cx) (pins : List (Addr × Obj)) (σ : L2.St) (H : Hp) (t : Shared) (a : Addr) (cls : Value) (d : Option Addr) : Prop where
  inv : L2.Inv X pins σ H t
  obj : ∃ ob fl, t.heap.get? a = some ob ∧ L2N.Zn cls d ob ∧ ob.data = .fields fl
  na : H a = none
  nL : a ≠ X.env.locals
  nF : a ∉ X.fs
  n0 : ∀ o, X.s_0.heap.get? a = some o → a ∈ X.ex
  nc : ∀ x c, X.env.cells.lookup x = some c → c ≠ a
  np : ∀ p ∈ X.pn ++ pins, p.1 ≠ a
theorem seen_of (I : L2.Inv X pins σ H s) (stk : X.stack = X.env :: X.outer) (frm : X.env.frame = some X.env.locals) (gr : ∀ b o, s.heap.get? b = some o → b ∉ frs X.stack → B.get? b = some o) (fly : HandSPX.FlyingZ B (X.env :: X.outer) a (L2N.Zn cls d) t.heap)
    (up : s.heap.UpToSlots t.heap) (os : t.os = s.os) (ag : AllBare t.gens) (na : H a = none) : Seen X pins σ H t a cls d := by
  have lies := fly.there
  obtain ⟨ob, fl, q, z, r⟩ := fly.there
  have out : a ∉ frs (X.env :: X.outer) := by
    intro mem
    (obtain ⟨_, ob2, q2, no⟩ := fly.2.2.1.mem mem)
    (cases q.symm.trans q2)
    exact no fl r
  have gone : s.heap.get? a = none := by
    cases e : s.heap.get? a with
    | none => rfl
    | some ob2 =>
      have e2 := gr a ob2 e (by rw [stk]; exact out)
      (cases fly.2.1.symm.trans e2)
  have new : ∀ {b : Addr} {o : Obj}, s.heap.get? b = some o → b ≠ a := fun {b o} e z => by
    (rw [z, gone] at e)
    cases e
  refine ⟨I.landed gr fly.1 up os ag, lies, na, ?_, ?_, ?_, ?_, ?_⟩
  · intro z
    exact out (List.mem_filterMap.mpr ⟨X.env, .head _, by rw [frm, z]⟩)
  · intro mem
    (obtain ⟨en, m1, m2⟩ := List.mem_filterMap.mp mem)
    exact out (List.mem_filterMap.mpr ⟨en, .tail _ m1, m2⟩)
  · intro o e
    by_cases hx : a ∈ X.ex
    · exact hx
    · (obtain ⟨o2, e2⟩ := I.base.there a o e hx)
      cases gone.symm.trans e2
  · intro x c e
    (obtain ⟨v, o2, e2, _⟩ := I.cell x c e)
    exact new e2
  · exact fun p hp => new (I.pin p hp).1
/-- .. tracked from now on -/
theorem Seen.known (S : Seen X pins σ H t a cls d) : L2.Inv X pins σ (upd H a (ExD cls d a)) t := by
  (obtain ⟨I, ⟨ob, fl, q, z, r⟩, na, nL, nF, n0, nc, np⟩ := S)
  have un : ∀ {b : Addr}, b ≠ a → upd H a (ExD cls d a) b = H b := fun ne => upd_ne ne
  have ne : ∀ {b : Addr} {o : HO}, H b = some o → b ≠ a := fun e => ne_of_none e na
  constructor
  · exact I.ok
  · exact I.os
  · exact I.bare
  · have U := I.base
    constructor
    · exact U.keep
    · exact U.slot
    · intro b o e n hx
      have : b ≠ a := by
        rintro rfl
        exact hx (n0 o e)
      rw [un this]
      exact U.free b o e n hx
    · exact U.there
    · intro b xs e
      have e2 := U.tups b xs e
      rw [un (ne e2)]
      exact e2
    · intro b o u e
      have e2 := U.frzs b o u e
      rw [un (ne e2)]
      exact e2
    · intro b ps e
      (obtain ⟨m, e2⟩ := U.tbls b ps e)
      exact ⟨m, by rw [un (ne e2)]; exact e2⟩
  · exact I.loc
  · exact I.cell
  · rw [un nL.symm]
    exact I.free
  · intro x c e
    rw [un (nc x c e)]
    exact I.freeC x c e
  · intro p hp
    (obtain ⟨p1, p2, p3⟩ := I.pin p hp)
    exact ⟨p1, by rw [un (np p hp)]; exact p2, p3⟩
  · exact I.hok.laidN (fun _ _ e => e) na (exD_ok q z r)
  · exact I.len
/-- into a suite, nothing pinned anew; and out of it -/
theorem in_suite (I : L2.Inv X pins σ H t) : L2.Inv (X.suite a (X.pn ++ pins)) [] σ H t :=
  ⟨I.ok.suite _ _, I.os, I.bare, I.base, I.loc, I.cell, I.free, I.freeC, fun p hp => I.pin p (by simpa using hp), I.hok, I.len⟩
theorem off_suite {pi : List (Addr × Obj)} (k : X.Ok) (I : L2.Inv (X.suite a (X.pn ++ pins)) pi σ H t) : L2.Inv X pins σ H t :=
  ⟨k, I.os, I.bare, I.base, I.loc, I.cell, I.free, I.freeC, fun p hp => I.pin p (List.mem_append_left _ hp), I.hok, I.len⟩
end

/-- what 'except x as n' wishes of the body's exception: slot i is n's, the exception is tracked in the suite and behind it -/
def wKeep (K : PySem.W.Frag) (c : Value) (i : Nat) (ts : Addr → TS) (Wo : WX) (D : Ends) : WX := fun cls d σ H => ∃ b, PySem.W.exmOne K cls c = some b ∧ (b = false → Wo cls d σ H) ∧
  (b = true → ∀ a, H a = none → ts a ⟨fun σ' H' => D.nx (σ'.set i none) H', D.rt, fun σ' H' => D.bk (σ'.set i none) H', fun σ' H' => D.ct (σ'.set i none) H'⟩ (σ.set i (some (.ref a))) (upd H a (ExD cls d a)))
section
variable {X : Cx} {x n : Str} {c : Value} {i : Nat} {body rest : List Stmt} {one : Stmt} {np pos cp : Pos} {ts : Addr → TS} {Wo : WX} {pins : List (Addr × Obj)} {D : Ends} {s : Shared} {u : Value} {σ : L2.St} {H : Hp}
/-- from the suite's end to the statement's -/
theorem keep_end {a : Addr} {f : Flow} (nd : X.N.Nodup) (hi : X.N[i]? = some n) (hn : X.env.kindOf n = some .local) (k : X.Ok)
    (q : SP (X.suite a (X.pn ++ pins)) [] ⟨fun σ' H' => D.nx (σ'.set i none) H', D.rt, fun σ' H' => D.bk (σ'.set i none) H', fun σ' H' => D.ct (σ'.set i none) H'⟩ f s) :
    wpAny (model X.prog X.w) X.A (do bindName X.env n .none; unbindBehindTheSuite X.env n cp) (fun _ s' => SP X pins D f s') X.xe s := by
  cases f with
  | ret v =>
    (obtain ⟨w, σ1, H1, I1, rv, q1⟩ := q)
    exact gone_ok (off_suite k I1) nd hi hn fun s' I2 => ⟨w, _, _, I2, rv, q1⟩
  | next =>
    (obtain ⟨σ1, H1, I1, q1⟩ := q)
    exact gone_ok (off_suite k I1) nd hi hn fun s' I2 => ⟨_, _, I2, q1⟩
  | brk =>
    (obtain ⟨σ1, H1, I1, q1⟩ := q)
    exact gone_ok (off_suite k I1) nd hi hn fun s' I2 => ⟨_, _, I2, q1⟩
  | cont =>
    (obtain ⟨σ1, H1, I1, q1⟩ := q)
    exact gone_ok (off_suite k I1) nd hi hn fun s' I2 => ⟨_, _, I2, q1⟩
/-- from the throw to the clauses -/
def hitP (X : Cx) (pins : List (Addr × Obj)) (D : Ends) (hs : List ExceptHandler) : Value → Shared → Prop := fun e s1 =>
  wpAny (model X.prog X.w) X.A (noteFrame e X.env) (fun _ s2 => wpAny (model X.prog X.w) X.A (setFlight e none) (fun _ s3 => wpAny (model X.prog X.w) X.A (handleBy e X.env hs) (SP X pins D) X.xe s3) X.xe s2) X.xe s1
theorem keep_hit (stk : X.stack = X.env :: X.outer) (frm : X.env.frame = some X.env.locals) (nd : X.N.Nodup) (hi : X.N[i]? = some n) (hn : X.env.kindOf n = some .local) (named : Names X x c) (tk : L2N.Takes X Wo) (kx : X.Ok)
    (hsu : ∀ (a : Addr) (pn : List (Addr × Obj)), PSs (X.suite a pn) (one :: rest) (ts a)) (t : L2N.XE (X.tr (X.pn ++ pins) (hitP X pins D [.ExceptHandler (some (.Name x np)) (some n) (one :: rest) cp])) (wKeep X.K c i ts Wo D) u s) :
    hitP X pins D [.ExceptHandler (some (.Name x np)) (some n) (one :: rest) cp] u s := by
  (obtain ⟨a, B, t0, pins2, σ1, H1, cls, d, eu, I0, gr, up0, sky, na, os, ag, b, em, no, yes⟩ := t)
  subst eu
  have I : L2.Inv X pins σ1 H1 t0 := I0.ofTry kx
  have frs1 : X.A.frames = some (X.env :: X.outer) := kx.frames.trans (congrArg some stk)
  have sky1 : Sky B (X.env :: X.outer) a (L2N.Zn cls d) X.env.locals s.heap := stk ▸ sky
  unfold hitP
  refine L2N.Sky.land L2N.Zn.steady frs1 frm sky1 fun hp fly up1 => ?_
  have sn : Seen X pins σ1 H1 { s with heap := hp } a cls d := seen_of I stk frm gr fly (up0.trans up1) os ag na
  (obtain ⟨ob, fl, q, z, r⟩ := sn.obj)
  have ins := in_suite (a := a) sn.inv
  have cl : PySem.W.Looks (model X.prog X.w) hp (typeOf (.ref a)) cls := fun _ _ _ _ keep hq => wpAny_typeOf_ref (keep _ _ q) (by rw [z.1]; exact hq)
  refine wpAny_handleBy_cons (codeAny_handlers_test ?_) (fun z => nomatch z)
  have name : ∀ {Q : Value → Shared → Prop} {E : Value → Shared → Prop}, Q c { s with heap := hp } → wpAny (model X.prog X.w) (X.A.mark (some (.ref a))) (eval (.Name x np) X.env) Q E { s with heap := hp } := by
    intro Q E hq
    (obtain ⟨g, nodb, m | ⟨m, bv, nn⟩⟩ := named)
    · exact ld_glob ins g m hq nodb
    · exact ld_blt ins g m bv hq nn nodb
  refine name ((PySem.W.exm_one (M := model X.prog X.w) sn.inv.kIn cl em).here ?_)
  cases b with
  | false =>
    (show wpAny _ X.A (handleBy (.ref a) X.env []) _ _ _)
    refine wpAny_handleBy_nil ?_
    (obtain ⟨_, _, _, ob2, fl2, T, _, _, q2, _, r2, t1, _⟩ := id fly)
    unfold PySem.passOn
    refine wpAny_bind (wpAny_field q2 r2 t1 ?_)
    (rw [if_neg (show ¬ ((Value.ref T == Value.none) = true) from by simp)])
    have last : wpAny (model X.prog X.w) X.A (setFlight (.ref a) X.env.frame) (fun _ s4 => wpAny (model X.prog X.w) X.A (throw (.ref a) : Sem Flow) (SP X pins D) X.xe s4) X.xe { s with heap := hp } := by
      rw [frm]
      refine HandSPX.setFlight_upZ fly fun h4 held up4 => wpAny_throw (tk _ _ ?_)
      exact ⟨a, B, t0, pins, σ1, H1, cls, d, rfl, I, gr, (up0.trans up1).trans up4, .inr (.inr (stk ▸ held)), na, os, ag, no rfl⟩
    exact wpAny_bind last
  | true =>
    refine codeAny_handlers_suite_as (HandSPX.lands_againZ fly fun h4 fly4 up4 => ?_)
    have sn4 : Seen X pins σ1 H1 { s with heap := h4 } a cls d := seen_of I stk frm gr fly4 ((up0.trans up1).trans up4) os ag na
    refine store_ok (X := X.suite a (X.pn ++ pins)) (v := .ref a) (in_suite sn4.known) nd hi (.inl hn) rfl (fun s5 I5 => ?_) (.inr hn)
    refine wpAny_mono ((hsu a (X.pn ++ pins)).run [] s5 _ _ _ I5 (yes rfl a na)) (fun f s6 q6 => ?_) fun _ _ z => z.elim
    have e := keep_end (cp := cp) nd hi hn kx q6
    first
      | exact e
      | (cases f <;> exact e)
theorem ps_try_keep {tb : WX → TS} (stk : X.stack = X.env :: X.outer) (frm : X.env.frame = some X.env.locals) (nd : X.N.Nodup) (hi : X.N[i]? = some n) (hn : X.env.kindOf n = some .local) (named : Names X x c) (tk : L2N.Takes X Wo)
    (hb : ∀ (W : WX) (pn : List (Addr × Obj)) (xe : Value → Shared → Prop), L2N.Takes (X.tr pn xe) W → PassesOwn (model X.prog X.w) X.A X.env xe → PSs (X.tr pn xe) body (tb W)) (hsu : ∀ (a : Addr) (pn : List (Addr × Obj)), PSs (X.suite a pn) (one :: rest) (ts a)) :
    PS X (.Try body [.ExceptHandler (some (.Name x np)) (some n) (one :: rest) cp] [] [] pos) (fun D σ H => tb (wKeep X.K c i ts Wo D) D σ H) := by
  (refine ⟨fun pins s σ H D I h => wpAny_Try_except ?_⟩)
  have kx := I.ok
  have run := (hb (wKeep X.K c i ts Wo D) (X.pn ++ pins) (hitP X pins D [.ExceptHandler (some (.Name x np)) (some n) (one :: rest) cp]) (fun u s' t => keep_hit stk frm nd hi hn named tk kx hsu t) PassesOwn.looking).run [] s σ H D (I.toTry _) h
  refine wpAny_mono run (fun f s1 q => ?_) fun _ _ z => z
  cases f with
  | ret v =>
    (obtain ⟨w, σ1, H1, I1, rv, q1⟩ := q)
    exact ⟨w, _, _, I1.ofTry kx, rv, q1⟩
  | next =>
    (obtain ⟨σ1, H1, I1, q1⟩ := q)
    exact wpAny_execs_nil ⟨_, _, I1.ofTry kx, q1⟩
  | brk =>
    (obtain ⟨σ1, H1, I1, q1⟩ := q)
    exact ⟨_, _, I1.ofTry kx, q1⟩
  | cont =>
    (obtain ⟨σ1, H1, I1, q1⟩ := q)
    exact ⟨_, _, I1.ofTry kx, q1⟩
/-- what 'except x' wishes of it -/
def wOnly (K : PySem.W.Frag) (c : Value) (t0 : TS) (Wo : WX) (D : Ends) : WX := fun cls d σ H => ∃ b, PySem.W.exmOne K cls c = some b ∧ (b = false → Wo cls d σ H) ∧ (b = true → t0 D σ H)
theorem only_hit {t0 : TS} (stk : X.stack = X.env :: X.outer) (frm : X.env.frame = some X.env.locals) (named : Names X x c) (tk : L2N.Takes X Wo) (kx : X.Ok)
    (hsu : ∀ (a : Addr) (pn : List (Addr × Obj)), PSs (X.suite a pn) (one :: rest) t0) (t : L2N.XE (X.tr (X.pn ++ pins) (hitP X pins D [.ExceptHandler (some (.Name x np)) none (one :: rest) cp])) (wOnly X.K c t0 Wo D) u s) :
    hitP X pins D [.ExceptHandler (some (.Name x np)) none (one :: rest) cp] u s := by
  (obtain ⟨a, B, s0, pins2, σ1, H1, cls, d, eu, I0, gr, up0, sky, na, os, ag, b, em, no, yes⟩ := t)
  subst eu
  have I : L2.Inv X pins σ1 H1 s0 := I0.ofTry kx
  have frs1 : X.A.frames = some (X.env :: X.outer) := kx.frames.trans (congrArg some stk)
  have sky1 : Sky B (X.env :: X.outer) a (L2N.Zn cls d) X.env.locals s.heap := stk ▸ sky
  unfold hitP
  refine L2N.Sky.land L2N.Zn.steady frs1 frm sky1 fun hp fly up1 => ?_
  have sn : Seen X pins σ1 H1 { s with heap := hp } a cls d := seen_of I stk frm gr fly (up0.trans up1) os ag na
  (obtain ⟨ob, fl, q, z, r⟩ := sn.obj)
  have ins := in_suite (a := a) sn.inv
  have cl : PySem.W.Looks (model X.prog X.w) hp (typeOf (.ref a)) cls := fun _ _ _ _ keep hq => wpAny_typeOf_ref (keep _ _ q) (by rw [z.1]; exact hq)
  refine wpAny_handleBy_cons (codeAny_handlers_test ?_) (fun z => nomatch z)
  have name : ∀ {Q : Value → Shared → Prop} {E : Value → Shared → Prop}, Q c { s with heap := hp } → wpAny (model X.prog X.w) (X.A.mark (some (.ref a))) (eval (.Name x np) X.env) Q E { s with heap := hp } := by
    intro Q E hq
    (obtain ⟨g, nodb, m | ⟨m, bv, nn⟩⟩ := named)
    · exact ld_glob ins g m hq nodb
    · exact ld_blt ins g m bv hq nn nodb
  refine name ((PySem.W.exm_one (M := model X.prog X.w) sn.inv.kIn cl em).here ?_)
  cases b with
  | false =>
    (show wpAny _ X.A (handleBy (.ref a) X.env []) _ _ _)
    refine wpAny_handleBy_nil ?_
    (obtain ⟨_, _, _, ob2, fl2, T, _, _, q2, _, r2, t1, _⟩ := id fly)
    unfold PySem.passOn
    refine wpAny_bind (wpAny_field q2 r2 t1 ?_)
    (rw [if_neg (show ¬ ((Value.ref T == Value.none) = true) from by simp)])
    have last : wpAny (model X.prog X.w) X.A (setFlight (.ref a) X.env.frame) (fun _ s4 => wpAny (model X.prog X.w) X.A (throw (.ref a) : Sem Flow) (SP X pins D) X.xe s4) X.xe { s with heap := hp } := by
      rw [frm]
      refine HandSPX.setFlight_upZ fly fun h4 held up4 => wpAny_throw (tk _ _ ?_)
      exact ⟨a, B, s0, pins, σ1, H1, cls, d, rfl, I, gr, (up0.trans up1).trans up4, .inr (.inr (stk ▸ held)), na, os, ag, no rfl⟩
    exact wpAny_bind last
  | true =>
    refine codeAny_handlers_suite (HandSPX.lands_againZ fly fun h4 fly4 up4 => ?_)
    have sn4 : Seen X pins σ1 H1 { s with heap := h4 } a cls d := seen_of I stk frm gr fly4 ((up0.trans up1).trans up4) os ag na
    refine wpAny_mono ((hsu a (X.pn ++ pins)).run [] _ _ _ _ (in_suite sn4.inv) (yes rfl)) (fun f s6 q6 => ?_) fun _ _ z => z.elim
    cases f with
    | ret v =>
      (obtain ⟨w, σ2, H2, I2, rv, q1⟩ := q6)
      exact ⟨w, _, _, off_suite kx I2, rv, q1⟩
    | next =>
      (obtain ⟨σ2, H2, I2, q1⟩ := q6)
      exact ⟨_, _, off_suite kx I2, q1⟩
    | brk =>
      (obtain ⟨σ2, H2, I2, q1⟩ := q6)
      exact ⟨_, _, off_suite kx I2, q1⟩
    | cont =>
      (obtain ⟨σ2, H2, I2, q1⟩ := q6)
      exact ⟨_, _, off_suite kx I2, q1⟩
theorem ps_try_plain {tb : WX → TS} {t0 : TS} (stk : X.stack = X.env :: X.outer) (frm : X.env.frame = some X.env.locals) (named : Names X x c) (tk : L2N.Takes X Wo)
    (hb : ∀ (W : WX) (pn : List (Addr × Obj)) (xe : Value → Shared → Prop), L2N.Takes (X.tr pn xe) W → PassesOwn (model X.prog X.w) X.A X.env xe → PSs (X.tr pn xe) body (tb W)) (hsu : ∀ (a : Addr) (pn : List (Addr × Obj)), PSs (X.suite a pn) (one :: rest) t0) :
    PS X (.Try body [.ExceptHandler (some (.Name x np)) none (one :: rest) cp] [] [] pos) (fun D σ H => tb (wOnly X.K c t0 Wo D) D σ H) := by
  (refine ⟨fun pins s σ H D I h => wpAny_Try_except ?_⟩)
  have kx := I.ok
  have run := (hb (wOnly X.K c t0 Wo D) (X.pn ++ pins) (hitP X pins D [.ExceptHandler (some (.Name x np)) none (one :: rest) cp]) (fun u s' t => only_hit stk frm named tk kx hsu t) PassesOwn.looking).run [] s σ H D (I.toTry _) h
  refine wpAny_mono run (fun f s1 q => ?_) fun _ _ z => z
  cases f with
  | ret v =>
    (obtain ⟨w, σ1, H1, I1, rv, q1⟩ := q)
    exact ⟨w, _, _, I1.ofTry kx, rv, q1⟩
  | next =>
    (obtain ⟨σ1, H1, I1, q1⟩ := q)
    exact wpAny_execs_nil ⟨_, _, I1.ofTry kx, q1⟩
  | brk =>
    (obtain ⟨σ1, H1, I1, q1⟩ := q)
    exact ⟨_, _, I1.ofTry kx, q1⟩
  | cont =>
    (obtain ⟨σ1, H1, I1, q1⟩ := q)
    exact ⟨_, _, I1.ofTry kx, q1⟩
end

/-! ### raise C(e) -/
section
variable {X : Cx}
theorem pmk_one {C : Addr} {bmB : List Value} {B newId initId : String} {x : Str} {e : Expr} {te : TE} {p pos : Pos} (F : ExcBaseFacts B newId initId bmB) (q : PySem.W.excIn X.K C bmB newId = true) (gC : X.mg x = some (.ref C)) (kC : PySem.W.keepIn X.K (.ref C) = true) (r : Raises X (.ref C)) (hg : Gl X x)
    (he : PE X e te) (hs : starEach [e] X.env = (false, eval e X.env) :: starEach [] X.env := by rfl) (hdb : (x == ("__debug__" : Str)) = false := by decide) :
    L2N.PMk X (.Call (.Name x p) [e] [] pos) (fun σ H Q => te σ H fun _ H1 => Q (.ref C) none H1) := by
  (intro pins s σ H Q I h)
  (refine wpAny_Call_Name_kw (ld_glob I hg gC ?_ hdb))
  refine (PySem.W.callWith_K (h₀ := X.base) I.ok.mod.kin kC ?_ hs (by rfl))
  (rw [hs])
  (show wpAny _ _ (spliced ((false, eval e X.env) :: backTo pos (starEach [] X.env))) _ _ s)
  refine (Calls.spliced_cons (thn (he.run pins s σ H _ I h) fun u s1 ⟨v, H1, I1, r1, q1⟩ => ?_))
  refine (Calls.spliced_nil ⟨I1.kIn, ?_⟩)
  (show wpAny _ _ (PySem.call (.ref C) [u]) _ _ _)
  (obtain ⟨bm, N, nm, qn, bs, hdct, sn, sub, ab, col, dd, k0, k1, k2, k3, k5, mN, hC, hN, hni, T⟩ := exc_obj I1.kIn q)
  refine (wpAny_call_exc_subT F T hC hN hni (fun h' e hm => ?_) (by show 1 ≤ sizeLine; rw [sizeLine_eq]; omega))
  exact L2N.mk_of I1 hm r q1 (I1.hok.gone hm.new)
end
/-! ### the field, isinstance -/
section
variable {X : Cx}
/-- e.f -/
def tFld (K : PySem.W.Frag) (f : Str) (te : TE) : TE := fun σ H Q => te σ H fun y H1 => ∃ k a b v, XfC K (He.ga K k) ∧ PySem.W.findIn K (.ref (He.ga K k)) f = some none ∧ y = .ref a ∧ H1 a = some (ExD (.ref (He.ga K k)) (some b) a) ∧ H1 b = some (.xd [(f, v)]) ∧ Q v H1
theorem pe_fld {e : Expr} {te : TE} {pos : Pos} {f : Str} (he : PE X e te) (hb : attributeBase e f X.env (eval e X.env) = eval e X.env) : PE X (.Attribute e f pos) (tFld X.K f te) := by
  (refine ⟨fun pins s σ H Q I h => attr_of hb (thn (he.run pins s σ H _ I h) fun u s1 hh => ?_)⟩)
  (obtain ⟨y, H1, I1, ry, k, a, b, v, T, own, ey, ea, eb, q⟩ := hh)
  subst ey
  (cases (show u = Value.ref a from ry))
  (obtain ⟨⟨ob, fl, qa, z, r⟩, _, _⟩ := (I1.hok a _ ea))
  (obtain ⟨mA, ns, rel⟩ := (show ObjOk X.prog X.w H1 s1.heap b (.xd [(f, v)]) from I1.hok b _ eb))
  (obtain ⟨od, ho, hl⟩ := lookIn_ns ns)
  have lk : ([(f, v)] : List (Str × V)).lookup f = some v := by simp [List.lookup]
  (obtain ⟨w, hw, rw_⟩ := RelO.some_of (v := v) (o := mA f) (by rw [← lk]; exact rel f))
  have J : PySem.W.InstAt s1.heap a ob (He.ga X.K k) (some od) := ⟨qa, z.1, by unfold PySem.W.notCls; rw [r] <;> rfl, by rw [z.2.1]; exact ho⟩
  exact HandSPX.exc_get I1.kIn J T.ga T.gg T.exC (PySem.W.findObj_own T.hdC own rfl (by rw [hl, hw])) (handed_of rw_) ⟨v, H1, I1.tok _, rw_, q⟩
/-- isinstance(e, c), e with a dict of one field or none -/
def rIsX (K : PySem.W.Frag) : List V → Hp → VK → Prop := fun xs H Q => ∃ (a : Addr) (k : Str) (d : Option Addr) (c : V) (cv : Value) (b : Bool), xs = [.ref a, c] ∧ H a = some (ExD (.ref (He.ga K k)) d a) ∧ (∀ z, d = some z → ∃ f v, H z = some (.xd [(f, v)])) ∧ (∀ u, RelV c u → u = cv) ∧ ExcC K (He.ga K k) ∧ PySem.W.kitOne K (.ref (He.ga K k)) cv = some b ∧ Q (.bl b) H
theorem call_isX : CallR X (.builtin "isinstance") (rIsX X.K) := by
  intro pins s σ H xs us Q I r ⟨a, k, d, c, cv, b, ex, ea, ed, ec, C, e, q⟩
  subst ex
  (obtain ⟨u1, u2, rfl, r1, r2⟩ := vals2 r)
  (cases (show u1 = Value.ref a from r1))
  cases ec _ r2
  (obtain ⟨⟨ob, fl, qa, z, rr⟩, _, _⟩ := (I.hok a _ ea))
  (obtain ⟨cdD, hcD, _⟩ := PySem.W.any_some C.hd)
  have go : ∀ {od : Option Obj}, PySem.W.InstAt s.heap a ob (He.ga X.K k) od → wpAny (model X.prog X.w) X.A (PySem.call (.builtin "isinstance") [.ref a, cv]) (EP X pins σ Q) X.xe s := fun J =>
    PySem.W.kia_one (PySem.W.kitx_exc (by rw [hcD]; rfl) C.hg C.hk C.hs C.ha C.hn C.ht C.hm) I.kIn J e (fun z => nomatch z) fun tk => ⟨.bl b, H, I.tok tk, rfl, q⟩
  cases d with
  | none => exact go (od := none) ⟨qa, z.1, by unfold PySem.W.notCls; rw [rr] <;> rfl, by rw [z.2.1]; exact True.intro⟩
  | some y =>
    obtain ⟨f, v, eb⟩ := ed y rfl
    (obtain ⟨mA, ns, rel⟩ := (show ObjOk X.prog X.w H s.heap y (.xd [(f, v)]) from I.hok y _ eb))
    (obtain ⟨od, ho, hl⟩ := lookIn_ns ns)
    exact go (od := some od) ⟨qa, z.1, by unfold PySem.W.notCls; rw [rr] <;> rfl, by rw [z.2.1]; exact ho⟩
end
end PV
end

section
set_option maxRecDepth 100000
/-! PvQ: enumerate of a tuple, collected into a tuple. -/
namespace PVQ
open PySem
open PySem.Sem (wp)
theorem new_enumT (t : Addr) (items : Array Value) (k : Nat) (dc : Option Addr) (sl : Array (Option Value)) :
    Meets (Builtin.«enumerate.__new__» ⟨[.type "enumerate", .ref t], []⟩) (fun _ R s => s.heap.get? t = some { cls := .type "tuple", dict := dc, data := .seq items k, slots := sl } ∧
      R (.ok (.ret (.ref (s.heap.push { cls := .type "tuple_iterator", data := .fields #[.ref t, .int 0 0] }).objs.size)))
        { s with heap := (s.heap.push { cls := .type "tuple_iterator", data := .fields #[.ref t, .int 0 0] }).push { cls := .type "enumerate", data := .fields #[.none, .bool false, .ref s.heap.objs.size, rawInt 0, .none, .none] } }) :=
  .of_wp fun prog w A R s hyp => by
    obtain ⟨hp, gn, dr, tk, os⟩ := s
    obtain ⟨hget, hR⟩ := hyp
    have sub := sub_enumerate
    have isT : Heap.IsTuple (Shared.heap ⟨hp, gn, dr, tk, os⟩) t items := ⟨_, hget, rfl, k, rfl⟩
    wp_walk using PySem.AutoSeq1.wpAny_loadPart' hget
    (refine wpAny_stack_any fun st => wpAny_pure ?_)
    split
    · rename_i cl _ _ _ _ _
      cases (cl == Value.type "enumerate")
      · wp_walk using PySem.AutoSeq1.wpAny_loadPart' hget, wpAny_pyIter_tuple isT
        exact ⟨_, rfl, hR⟩
      · wp_walk using PySem.AutoSeq1.wpAny_loadPart' hget, wpAny_pyIter_tuple isT
        exact ⟨_, rfl, hR⟩
    · wp_walk using PySem.AutoSeq1.wpAny_loadPart' hget, wpAny_pyIter_tuple isT
      exact ⟨_, rfl, hR⟩
section
variable {w : World} {prog : Program} {A : Around} {E : Value → Shared → Prop} {s : Shared}
theorem call_enumT {t : Addr} {items : Array Value} {Q : Value → Shared → Prop} (ht : s.heap.IsTuple t items)
    (hq : ∀ h', IsEnum h' (s.heap.objs.size + 1) s.heap.objs.size 0 .none → h'.IsTupleIter s.heap.objs.size t 0 → h'.objs.size = s.heap.objs.size + 2 → (∀ b o, s.heap.get? b = some o → h'.get? b = some o) →
      Q (.ref (s.heap.objs.size + 1)) { s with heap := h' }) : wpAny (model prog w) A (call (.type "enumerate") [.ref t]) Q E s := by
  obtain ⟨⟨cl, dc, dt, sl⟩, hget, hc, k, hd⟩ := ht
  cases (show cl = .type "tuple" from hc)
  cases (show dt = .seq items k from hd)
  refine callType_new F.called_enumerate (by decide) (F.typeCall_enumerate_1 _) (F.newCall_enumerate_1 _) (fun ob => F.args_object_init_2 ob _) F.entry_enumerate_new (new_enumT t items k dc sl) ⟨hget, ?_⟩
  have size1 : (s.heap.push { cls := .type "tuple_iterator", data := .fields #[.ref t, .int 0 0] }).objs.size = s.heap.objs.size + 1 := Heap.size_push ..
  show _ ∧ _
  rw [size1]
  have isE : IsEnum ((s.heap.push { cls := .type "tuple_iterator", data := .fields #[.ref t, .int 0 0] }).push { cls := .type "enumerate", data := .fields #[.none, .bool false, .ref s.heap.objs.size, rawInt 0, .none, .none] }) (s.heap.objs.size + 1) s.heap.objs.size 0 .none := by
    have q := Heap.get?_push_size (s.heap.push { cls := .type "tuple_iterator", data := .fields #[.ref t, .int 0 0] }) (o := { cls := .type "enumerate", data := .fields #[.none, .bool false, .ref s.heap.objs.size, rawInt 0, .none, .none] }) rfl
    rwa [size1] at q
  exact ⟨⟨_, isE, rfl⟩, hq _ isE ⟨_, Heap.get?_push_of_some _ (Heap.get?_push_size _ rfl), rfl, rfl⟩ (by rw [Heap.size_push, size1]) fun b o x => Heap.get?_push_of_some _ (Heap.get?_push_of_some _ x)⟩
/-- next while a tuple that was given out is still there -/
theorem next_heldT {e it t T : Addr} {i : Nat} {items : Array Value} {x old : Value} {fl : Bool} {oT : Obj} {Q : Option Value → Shared → Prop}
    (he : IsEnumHeld s.heap e it i old T fl) (hT : s.heap.get? T = some oT) (nTe : T ≠ e) (nTi : T ≠ it) (hi : s.heap.IsTupleIter it t i) (ht : s.heap.IsTuple t items) (hx : items[i]? = some x) (nei : e ≠ it)
    (hq : ∀ h' tk, IsEnumHeld h' e it ((i : Int) + 1) old T true → h'.IsTupleIter it t (i + 1) → h'.get? s.heap.objs.size = some { cls := .type "tuple", data := .seq #[.int i tk, x] } → h'.objs.size = s.heap.objs.size + 1 →
      (∀ b o, b ≠ e → b ≠ it → s.heap.get? b = some o → h'.get? b = some o) →
      Q (some (.ref s.heap.objs.size)) { s with heap := h', toks := tk + 1 }) : wpAny (model prog w) A (pyNext (.ref e)) Q E s := by
  have isTy : s.TypeIs (.ref e) "enumerate" := ⟨_, he, rfl⟩
  unfold pyNext
  refine wpAny_bind (wpAny_attempt (wpAny_callSpecial?_slot (name := Str.ofString "__next__") isTy F.slot_enumerate_next (wpAny_call_entry F.slot_enumerate_next isTy F.entry_enumerate_next ?_ (F.args_enumerate_next_1 _))))
  obtain ⟨hp, gn, dr, tk, os⟩ := s
  (show wpAny _ _ (field (.ref e) 2 >>= _) _ _ _)
  refine wpAny_bind (wpAny_field he rfl (x := .ref it) rfl (wpAny_bind (wpAny_nextOf_tuple_item hi ht hx fun g1 hi1 sb1 => ?_)))
  have sb1 : Heap.SameBut it hp g1 := sb1
  have he1 : IsEnumHeld g1 e it i old T fl := (sb1.2 e nei).trans he
  show wpAny _ _ (field (.ref e) 3 >>= _) _ _ ⟨g1, gn, dr, tk, os⟩
  refine wpAny_bind (wpAny_field he1 rfl (x := rawInt i) rfl ?_)
  show wpAny _ _ (field (.ref e) 4 >>= _) _ _ ⟨g1, gn, dr, tk, os⟩
  refine wpAny_bind (wpAny_field he1 rfl (x := .none) rfl ?_)
  show wpAny _ _ (mkInt i >>= _) _ _ ⟨g1, gn, dr, tk, os⟩
  (refine wpAny_bind (wpAny_mkInt ?_))
  show wpAny _ _ (setField (.ref e) 3 (rawInt ((i : Int) + 1)) >>= _) _ _ ⟨g1, gn, dr, tk + 1, os⟩
  refine wpAny_bind (wpAny_setField_rec he1 (by simp) fun g2 he2 sb2 => ?_)
  have sb2 : Heap.SameBut e g1 g2 := sb2
  have he2 : IsEnumHeld g2 e it ((i : Int) + 1) old T fl := he2
  show wpAny _ _ (setField (.ref e) 4 .none >>= _) _ _ ⟨g2, gn, dr, tk + 1, os⟩
  refine wpAny_bind (wpAny_setField_rec he2 (by simp) fun g3 he3 sb3 => ?_)
  have sb3 : Heap.SameBut e g2 g3 := sb3
  have he3 : IsEnumHeld g3 e it ((i : Int) + 1) old T fl := he3
  show wpAny _ _ (newTuple [.int i tk, x] >>= _) _ _ ⟨g3, gn, dr, tk + 1, os⟩
  (refine wpAny_bind (wpAny_newTuple ?_))
  have sz3 : g3.objs.size = hp.objs.size := by rw [sb3.1, sb2.1, sb1.1]
  have he4 : IsEnumHeld (g3.push { cls := .type "tuple", data := .seq #[.int i tk, x] }) e it ((i : Int) + 1) old T fl := Heap.get?_push_of_some _ he3
  have keep4 : ∀ b o, b ≠ e → b ≠ it → hp.get? b = some o → (g3.push { cls := .type "tuple", data := .seq #[.int i tk, x] }).get? b = some o := fun b o hbe hbi hb =>
    Heap.get?_push_of_some _ (sb3.extBut b o hbe (sb2.extBut b o hbe (sb1.extBut b o hbi hb)))
  have hi4 : (g3.push { cls := .type "tuple", data := .seq #[.int i tk, x] }).IsTupleIter it t (i + 1) := by
    obtain ⟨o, ho, r⟩ := (hi1.extBut sb2.extBut (Ne.symm nei)).extBut sb3.extBut (Ne.symm nei)
    exact ⟨o, Heap.get?_push_of_some _ ho, r⟩
  have new4 : (g3.push { cls := .type "tuple", data := .seq #[.int i tk, x] }).get? hp.objs.size = some { cls := .type "tuple", data := .seq #[.int i tk, x] } := by rw [← sz3]; exact Heap.get?_push_size _ rfl
  have nne : hp.objs.size ≠ e := Nat.ne_of_gt (Heap.lt_size he)
  show wpAny _ _ (Builtin.SmallTypes.ownedTupleIsFree (.ref e) >>= _) _ _ ⟨_, gn, dr, tk + 1, os⟩
  rw [sz3]
  refine wpAny_bind (wpAny_tupleHeld_enum (s := ⟨_, gn, dr, tk + 1, os⟩) he4 (keep4 T oT nTe nTi hT) fun g5 he5 sb5 => ?_)
  have sb5 : Heap.SameBut e _ g5 := sb5
  (simp only [Bool.false_eq_true, if_false])
  (refine wpAny_pure ⟨_, rfl, ?_⟩)
  refine wpAny_pure (hq g5 tk he5 (hi4.extBut sb5.extBut (Ne.symm nei)) (sb5.extBut _ _ nne new4) ?_ fun b o hbe hbi hb => sb5.extBut b o hbe (keep4 b o hbe hbi hb))
  show g5.objs.size = hp.objs.size + 1
  rw [sb5.1, Heap.size_push, sz3]
theorem end_heldT {e it t T : Addr} {i : Nat} {items : Array Value} {old : Value} {fl : Bool} {Q : Option Value → Shared → Prop} (hh : A.handled = none) (he : IsEnumHeld s.heap e it i old T fl) (hi : s.heap.IsTupleIter it t i) (ht : s.heap.IsTuple t items) (hx : items[i]? = none)
    (hq : ∀ h', Heap.ExtBut it s.heap h' → Q none { s with heap := h' }) : wpAny (model prog w) A (pyNext (.ref e)) Q E s := by
  have isTy : s.TypeIs (.ref e) "enumerate" := ⟨_, he, rfl⟩
  unfold pyNext
  refine wpAny_bind (wpAny_attempt (wpAny_callSpecial?_slot (name := Str.ofString "__next__") isTy F.slot_enumerate_next (wpAny_call_entry F.slot_enumerate_next isTy F.entry_enumerate_next ?_ (F.args_enumerate_next_1 _))))
  (show wpAny _ _ (field (.ref e) 2 >>= _) _ _ _)
  refine wpAny_bind (wpAny_field he rfl (x := .ref it) rfl (wpAny_bind (wpAny_nextOf_tuple_end hh hi ht hx fun h' y ex ey => ?_)))
  obtain ⟨o, ho, hc⟩ := ey
  exact wpAny_bind (wpAny_isInstance (T := "StopIteration") (b := true) ⟨o, ho, hc⟩ isSubtype_stop (wpAny_pure (hq _ ex)))

/-! ### the loop that collects the pairs -/
structure Pairs (items : Array Value) (e it S : Addr) (acc : Array Value) (h : Heap) : Prop where
  at_ : ∀ (j : Nat) (v : Value), acc[j]? = some v → ∃ (T : Addr) (tk : Tok) (x : Value), v = .ref T ∧ items[j]? = some x ∧ h.get? T = some { cls := .type "tuple", data := .seq #[.int (j : Int) tk, x] } ∧ T ≠ e ∧ T ≠ it ∧ T ≠ S ∧ e < T
structure At (items : Array Value) (e it t S : Addr) (i : Nat) (acc : Array Value) (c : Nat) (h : Heap) : Prop where
  en : (i = 0 ∧ ∃ old, IsEnum h e it 0 old) ∨ ∃ (old : Value) (T : Addr) (fl : Bool) (oT : Obj), IsEnumHeld h e it (i : Int) old T fl ∧ h.get? T = some oT ∧ T ≠ e ∧ T ≠ it ∧ T ≠ S
  ti : h.IsTupleIter it t i
  tp : h.IsTuple t items
  ls : h.get? S = some { cls := .type "list", dict := none, data := .seq acc c, slots := #[] }
  sz : acc.size = i
  ps : Pairs items e it S acc h
theorem nextT (hh : A.handled = none) {items : Array Value} {e it t S : Addr} {i c : Nat} {acc : Array Value} (n1 : e ≠ it) (n2 : t ≠ it) (n3 : t ≠ e) (a : At items e it t S i acc c s.heap) (hlt : i < items.size) {Q : Option Value → Shared → Prop}
    (hq : ∀ (g : Heap) (tk : Tok), (∃ (old : Value) (T : Addr) (fl : Bool) (oT : Obj), IsEnumHeld g e it ((i + 1 : Nat) : Int) old T fl ∧ g.get? T = some oT ∧ T ≠ e ∧ T ≠ it ∧ T ≠ S) → g.IsTupleIter it t (i + 1) → g.IsTuple t items →
      g.get? s.heap.objs.size = some { cls := .type "tuple", data := .seq #[.int (i : Int) tk, items[i]] } → (∀ b o, b ≠ e → b ≠ it → s.heap.get? b = some o → g.get? b = some o) → Q (some (.ref s.heap.objs.size)) { s with heap := g, toks := tk + 1 }) :
    (wpAny (model prog w) A (pyNext (.ref e)) Q E s) := by
  obtain ⟨oi, goi, _⟩ := id a.ti
  have z1 : s.heap.objs.size ≠ it := Nat.ne_of_gt (Heap.lt_size goi)
  have z3 : s.heap.objs.size ≠ S := Nat.ne_of_gt (Heap.lt_size a.ls)
  rcases a.en with ⟨i0, old, he⟩ | ⟨old, T, fl, oT, he, hT, m1, m2, m3⟩
  · have z4 : s.heap.objs.size ≠ e := Nat.ne_of_gt (Heap.lt_size he)
    subst i0
    refine wpAny_pyNext_enum_itemD (Draws.tuple (A := A.in1) hh it t n2 items) he ⟨a.ti, a.tp⟩ hlt n1 (fun hm => ?_) fun x g tk hP ho hs2 new _ keep => ?_
    · rcases List.mem_cons.mp hm with z | z
      · exact n1 z
      · exact n3 (List.mem_singleton.mp z).symm
    · have hx : items[0] = x := by rw [Array.getElem?_eq_getElem hlt] at hP; exact Option.some.inj hP
      subst hx
      exact hq g tk ⟨_, _, false, _, ho, new, z4, z1, z3⟩ hs2.1 hs2.2 new keep
  · refine next_heldT he hT m1 m2 a.ti a.tp (Array.getElem?_eq_getElem hlt) n1 fun g tk ho hi2 new _ keep => ?_
    exact hq g tk ⟨_, T, true, oT, ho, keep T _ m1 m2 hT, m1, m2, m3⟩ hi2 (a.tp.at fun o q => keep t o n3 n2 q) new keep
theorem loopT (hh : A.handled = none) {items : Array Value} {e it t S : Addr} (n1 : e ≠ it) (n2 : t ≠ it) (n3 : t ≠ e) (n4 : S ≠ e) (n5 : S ≠ it) (n6 : S ≠ t) (hz : items.size ≤ sizeLine) (res : Value) {R : Result → Shared → Prop} :
    ∀ (k i : Nat) (s : Shared) (acc : Array Value) (c : Nat), items.size - i = k → i ≤ items.size → At items e it t S i acc c s.heap →
    (∀ (h' : Heap) (tk' : Tok) (acc' : Array Value) (c' : Nat), acc'.size = items.size → Pairs items e it S acc' h' → h'.get? S = some { cls := .type "list", dict := none, data := .seq acc' c', slots := #[] } → (∀ b o, b ≠ e → b ≠ it → b ≠ S → s.heap.get? b = some o → h'.get? b = some o) →
      R (.ok (.ret res)) { s with heap := h', toks := tk' }) → codeAny (model prog w) A (.builtin "list.extend.loop" ⟨[.ref S, .ref e, res], []⟩) R s := by
  intro k
  induction k with
  | zero =>
    intro i s acc c hk hi a hR
    have e0 : i = items.size := by omega
    subst e0
    (refine codeAny_builtin F.entry_extend_loop ?_)
    (rw [Around.under_plainId F.plain_extend_loop _])
    show wpAny _ A.in1 (pyNext (.ref e) >>= _) _ _ s
    have stop : ∀ h', Heap.ExtBut it s.heap h' → R (.ok (.ret res)) { s with heap := h' } := fun h' x =>
      hR h' s.toks acc c a.sz ⟨fun j v hv => let ⟨T, tk, y, q1, q2, q3, q4, q5, q6⟩ := a.ps.at_ j v hv; ⟨T, tk, y, q1, q2, x T _ q5 q3, q4, q5, q6⟩⟩ (x S _ n5 a.ls) fun b o _ hb _ q => x b o hb q
    rcases a.en with ⟨i0, old, he⟩ | ⟨old, T, fl, oT, he, hT, m1, m2, m3⟩
    · exact wpAny_bind (wpAny_pyNext_enum_endD (Draws.tuple (A := A.in1.in1) hh it t n2 items) he ⟨a.ti, a.tp⟩ fun h' x => wpAny_pure (stop h' x))
    · exact wpAny_bind (end_heldT hh he a.ti a.tp (by simp) fun h' x => wpAny_pure (stop h' x))
  | succ k ih =>
    intro i s acc c hk hi a hR
    (have hlt : i < items.size := by omega)
    (refine codeAny_builtin F.entry_extend_loop ?_)
    (rw [Around.under_plainId F.plain_extend_loop _])
    show wpAny _ A.in1 (pyNext (.ref e) >>= _) _ _ s
    obtain ⟨oi, goi, _⟩ := a.ti
    obtain ⟨ot, got, _⟩ := a.tp
    have z1 : s.heap.objs.size ≠ it := Nat.ne_of_gt (Heap.lt_size goi)
    have z2 : s.heap.objs.size ≠ t := Nat.ne_of_gt (Heap.lt_size got)
    have z3 : s.heap.objs.size ≠ S := Nat.ne_of_gt (Heap.lt_size a.ls)
    have z5 : e < s.heap.objs.size := by
      rcases a.en with ⟨_, old, he⟩ | ⟨old, T, fl, oT, he, _⟩
      · exact Heap.lt_size he
      · exact Heap.lt_size he
    have z4 : s.heap.objs.size ≠ e := Nat.ne_of_gt z5
    refine wpAny_bind (nextT (A := A.in1) (show A.in1.handled = none from hh) n1 n2 n3 a hlt fun g tk en hi2 ht2 new keep => ?_)
    have ls2 := keep S _ n4 n5 a.ls
    show wpAny _ A.in1 (updateSeq S (·.push (.ref s.heap.objs.size)) >>= _) _ _ _
    refine wpAny_bind ?_
    refine wpAny_updateSeq ls2 rfl (wpAny_pure ⟨plainId_quiet F.plain_extend_loop _, ih (i + 1) _ (acc.push (.ref s.heap.objs.size)) _ (by omega) hlt ⟨.inr ?_, ?_, ?_, Heap.get?_update_self _ ls2 rfl, by rw [Array.size_push, a.sz], ⟨fun j v hv => ?_⟩⟩ fun h' tk' acc' c' q1 q2 q3 q4 => ?_⟩)
      (by rw [a.sz]; omega) (by show (acc.push (.ref s.heap.objs.size)).size ≤ sizeLine + 1; rw [Array.size_push, a.sz]; omega)
    · obtain ⟨old, T, fl, oT, r1, r2, r3, r4, r5⟩ := en
      exact ⟨old, T, fl, oT, (Heap.get?_update_other _ _ n4).trans r1, (Heap.get?_update_other _ _ (Ne.symm r5)).trans r2, r3, r4, r5⟩
    · exact hi2.at fun o q => (Heap.get?_update_other _ _ n5).trans q
    · exact ht2.at fun o q => (Heap.get?_update_other _ _ n6).trans q
    · rw [Array.getElem?_push] at hv
      split at hv
      · rename_i ej
        rw [a.sz] at ej
        cases hv
        subst ej
        exact ⟨_, tk, items[j], rfl, Array.getElem?_eq_getElem hlt, (Heap.get?_update_other _ _ (Ne.symm z3)).trans new, z4, z1, z3, z5⟩
      · obtain ⟨T, tk2, y, r1, r2, r3, r4, r5, r6, r7⟩ := a.ps.at_ j v hv
        exact ⟨T, tk2, y, r1, r2, (Heap.get?_update_other _ _ (Ne.symm r6)).trans (keep T _ r4 r5 r3), r4, r5, r6, r7⟩
    · exact hR h' tk' acc' c' q1 q2 q3 fun b o b1 b2 b3 q => q4 b o b1 b2 b3 ((Heap.get?_update_other _ _ (Ne.symm b3)).trans (keep b o b1 b2 q))

theorem nolen_en : typeLookup (.type "enumerate") "__len__" = pure none := by rw [typeLookup_type, builtinLookup_eq_fast]; kernel_rfl
theorem nohint_en : typeLookup (.type "enumerate") "__length_hint__" = pure none := by rw [typeLookup_type, builtinLookup_eq_fast]; kernel_rfl
theorem collectT (hh : A.handled = none) {items : Array Value} {e it t : Addr} {old : Value} (n1 : e ≠ it) (n2 : t ≠ it) (n3 : t ≠ e) (hz : items.size ≤ sizeLine) (he : IsEnum s.heap e it 0 old) (hi : s.heap.IsTupleIter it t 0) (ht : s.heap.IsTuple t items) {Q : List Value → Shared → Prop}
    (hQ : ∀ (h' : Heap) (tk' : Tok) (acc : Array Value), acc.size = items.size → (∀ (j : Nat) (v : Value), acc[j]? = some v → ∃ (T : Addr) (tk : Tok) (x : Value), v = .ref T ∧ items[j]? = some x ∧ h'.get? T = some { cls := .type "tuple", data := .seq #[.int (j : Int) tk, x] } ∧ e < T) →
      (∀ b o, b ≠ e → b ≠ it → s.heap.get? b = some o → h'.get? b = some o) → s.heap.objs.size < h'.objs.size → Q acc.toList { s with heap := h', toks := tk' }) : wpAny (model prog w) A (collect (.ref e)) Q E s := by
  obtain ⟨oi, goi, _⟩ := id hi
  obtain ⟨ot, got, _⟩ := id ht
  have le := Heap.lt_size he
  have li := Heap.lt_size goi
  have lt := Heap.lt_size got
  unfold collect
  refine wpAny_bind (wpAny_runValue (codeAny_builtin F.entry_proto_collect ?_)); rw [Around.under_plainId F.plain_proto_collect _]
  show wpAny _ A.in1 (newList [] >>= fun l => again (.builtin "list.__iadd__" ⟨[l, .ref e], []⟩)) _ _ s
  refine wpAny_bind (wpAny_newObj_type (wpAny_pure ⟨plainId_quiet F.plain_list_iadd _, codeAny_builtin F.entry_list_iadd ?_⟩)); rw [Around.under_plainId F.plain_list_iadd _]
  let g0 := s.heap.push { cls := .type "list", data := .seq ([] : List Value).toArray }
  have k0 : ∀ b o, s.heap.get? b = some o → g0.get? b = some o := fun b o q => Heap.get?_push_of_some _ q
  have he0 : IsEnum g0 e it 0 old := k0 _ _ he
  have isTy : ({ s with heap := g0 } : Shared).TypeIs (.ref e) "enumerate" := ⟨_, he0, rfl⟩
  show wpAny _ A.in1 (Builtin.List.listExtendWith (.ref s.heap.objs.size) (.ref e) (.ref s.heap.objs.size)) _ _ _
  (unfold Builtin.List.listExtendWith)
  refine wpAny_bind (wpAny_typeOf isTy ?_)
  have q1 : Builtin.List.listSameRef (.ref s.heap.objs.size) (.ref e) = false := by simp [Builtin.List.listSameRef, Nat.ne_of_gt le]
  have q2 : (Value.type "enumerate" == Value.type "list") = false := by decide
  have q3 : (Value.type "enumerate" == Value.type "tuple") = false := by decide
  simp only [q1, q2, q3, Bool.or_false, Bool.false_eq_true, if_false]
  refine wpAny_bind (wpAny_pyIter_enum he0 (wpAny_bind (wpAny_holding ?_)))
  (unfold Builtin.List.listLengthHint)
  refine wpAny_bind (wpAny_specialOf isTy nolen_en ?_)
  show wpAny _ A.in1 (specialOf (Value.ref e) (Str.ofString "__length_hint__") >>= _) _ _ _
  refine wpAny_bind (wpAny_specialOf isTy nohint_en (wpAny_pure ?_))
  show wpAny _ A.in1 (rule "list.extend.makes-room" >>= fun _ => Builtin.List.listTouch (.ref s.heap.objs.size) >>= fun _ => again (.builtin "list.extend.loop" ⟨[.ref s.heap.objs.size, .ref e, .ref s.heap.objs.size], []⟩)) _ _ _
  have hS : g0.get? s.heap.objs.size = some { cls := .type "list", data := .seq ([] : List Value).toArray } := Heap.get?_push_size _ rfl
  (refine wpAny_bind (wpAny_rule (wpAny_bind ?_)))
  (show wpAny _ A.in1 (updateSeq s.heap.objs.size (·.push .none) >>= fun _ => updateSeq s.heap.objs.size (·.pop)) _ _ _)
  have hS2 := Heap.get?_update_self (Obj.mapSeq (·.push Value.none)) hS rfl
  have hS3 := Heap.get?_update_self (Obj.mapSeq (·.pop)) hS2 rfl
  refine wpAny_bind (wpAny_updateSeq hS rfl (wpAny_updateSeq hS2 rfl ?_))
  have oth : ∀ b o, b ≠ s.heap.objs.size → g0.get? b = some o → ((g0.update s.heap.objs.size (Obj.mapSeq (·.push Value.none))).update s.heap.objs.size (Obj.mapSeq (·.pop))).get? b = some o :=
    fun b o hb q => (Heap.get?_update_other _ _ (Ne.symm hb)).trans ((Heap.get?_update_other _ _ (Ne.symm hb)).trans q)
  have ne := Nat.ne_of_lt le
  have ni := Nat.ne_of_lt li
  have nt := Nat.ne_of_lt lt
  refine wpAny_pure ⟨plainId_quiet F.plain_extend_loop _, loopT (A := A) hh n1 n2 n3 (Ne.symm ne) (Ne.symm ni) (Ne.symm nt) hz (.ref s.heap.objs.size) items.size 0 _ _ _ (Nat.sub_zero _) (Nat.zero_le _)
    ⟨.inl ⟨rfl, old, oth e _ ne he0⟩, hi.at fun o q => oth it o ni (k0 _ _ q), ht.at fun o q => oth t o nt (k0 _ _ q), hS3, rfl, ⟨fun j v hv => by simp at hv⟩⟩ fun h' tk' acc c' r1 r2 r3 r4 => ?_⟩
  (show wpAny _ A (load s.heap.objs.size >>= _) _ _ _)
  refine wpAny_bind (wpAny_load r3 (wpAny_pure (hQ h' tk' acc r1 (fun j v hv => ?_) (fun b o b1 b2 q => ?_) (Heap.lt_size r3))))
  · obtain ⟨T, tk, x, p1, p2, p3, _, _, _, p4⟩ := r2.at_ j v hv
    exact ⟨T, tk, x, p1, p2, p3, p4⟩
  · have nb : b ≠ s.heap.objs.size := Nat.ne_of_lt (Heap.lt_size q)
    exact r4 b o b1 b2 nb (oth b o nb (k0 b o q))
/-- tuple(e) -/
theorem call_tupleT (hh : A.handled = none) {items : Array Value} {e it t : Addr} {old : Value} (n1 : e ≠ it) (n2 : t ≠ it) (n3 : t ≠ e) (hz : items.size ≤ sizeLine) (he : IsEnum s.heap e it 0 old) (hi : s.heap.IsTupleIter it t 0) (ht : s.heap.IsTuple t items) {Q : Value → Shared → Prop}
    (hQ : ∀ (h' : Heap) (tk' : Tok) (acc : Array Value), acc.size = items.size → (∀ (j : Nat) (v : Value), acc[j]? = some v → ∃ (T : Addr) (tk : Tok) (x : Value), v = .ref T ∧ items[j]? = some x ∧ h'.get? T = some { cls := .type "tuple", data := .seq #[.int (j : Int) tk, x] } ∧ e < T) →
      (∀ b o, b ≠ e → b ≠ it → s.heap.get? b = some o → h'.get? b = some o) → s.heap.objs.size < h'.objs.size → Q (.ref h'.objs.size) { s with heap := h'.push { cls := .type "tuple", data := .seq acc }, toks := tk' }) : wpAny (model prog w) A (call (.type "tuple") [.ref e]) Q E s := by
  have isTy : s.TypeIs (.ref e) "enumerate" := ⟨_, he, rfl⟩
  have core : codeAny (model prog w) A.in1 (.call (.builtin "tuple.__new__") ⟨[.type "tuple", .ref e], []⟩) (wants (fun obj s1 => s1.TypeIs obj "tuple" ∧ Q obj s1) E) s := by
    refine codeAny_of_tree ?_
    show wpAny _ A.in1.in1 (do checkBuiltinCall "tuple.__new__" ⟨[.type "tuple", .ref e], []⟩; again (.builtin "tuple.__new__" ⟨[.type "tuple", .ref e], []⟩)) _ _ s
    refine wpAny_bind (wpAny_of_eq (F.newCall_tuple_1 _) (wpAny_pure ⟨plainId_quiet F.plain_tuple_new _, codeAny_builtin F.entry_tuple_new ?_⟩)); rw [Around.under_plainId F.plain_tuple_new _]
    have u1 := sub_tuple_self
    have u2 := init_tuple_lookup
    have u3 := madeHere_tuple
    wp_walk using wpAny_typeOf isTy, collectT (s := s) (A := A.in1.in1) (show A.in1.in1.handled = none from hh) n1 n2 n3 hz he hi ht
    intro h' tk' acc r1 r2 r3 r4
    (show wpAny _ _ (Builtin.Tuple.tupleExact acc.toList.toArray >>= fun v => ret v) _ _ _)
    (unfold Builtin.Tuple.tupleExact)
    have ea : acc.toList.toArray = acc := by simp
    rw [ea]
    refine wpAny_bind (wpAny_newObj_type (wpAny_pure ?_) (by show acc.size ≤ sizeLine; rw [r1]; exact hz))
    exact ⟨⟨_, Heap.get?_push_size _ rfl, rfl⟩, hQ h' tk' acc r1 r2 r3 r4⟩
  refine callType_codes (Q₁ := fun obj s1 => s1.TypeIs obj "tuple" ∧ Q obj s1) F.called_tuple (F.typeCall_tuple_1 _) F.entry_object_init core fun obj s1 h1 => ?_
  exact ⟨h1.1, F.args_object_init_2 obj _, object_init_meets F.called_tuple.init.lookup F.called_tuple.made (by decide) prog w A.in1 _ s1 ⟨h1.1, rfl, h1.2⟩⟩
end
end PVQ
end

section
set_option maxRecDepth 100000
namespace PV
open L2 PySem PySem.Spec PyProof.Rows
def pairsV (n : Nat) : List V → List (List V)
  | [] => []
  | v :: vs => [.int (n : Int), v] :: pairsV (n + 1) vs
theorem build_ps {h : Heap} {e : Addr} : ∀ {vs : List V} {its accl : List Value} {n : Nat}, Vals vs its → accl.length = its.length →
    (∀ (j : Nat) (v : Value), accl[j]? = some v → ∃ (T : Addr) (tk : Tok) (x : Value), v = .ref T ∧ its[j]? = some x ∧ h.get? T = some { cls := .type "tuple", data := .seq #[.int ((n + j : Nat) : Int) tk, x] } ∧ e < T) →
    ∃ ps : List (Addr × List V), accl = ps.map (fun p => Value.ref p.1) ∧ ps.map (·.2) = pairsV n vs ∧ (∀ p ∈ ps, e < p.1 ∧ p.2.length ≤ 2 ∧ ∃ us : List Value, Vals p.2 us ∧ IsTup h p.1 us.toArray) ∧ (ps.map (·.1)).Nodup ∧
      ∀ p ∈ ps, ∃ (j : Nat) (tk : Tok) (x : Value), n ≤ j ∧ h.get? p.1 = some { cls := .type "tuple", data := .seq #[.int (j : Int) tk, x] }
  | _, _, [], n, .nil, _, _ => ⟨[], rfl, rfl, fun p hp => (by cases hp), List.nodup_nil, fun p hp => (by cases hp)⟩
  | _, _, _ :: _, _, .nil, hl, _ => by cases hl
  | _, _, [], _, .cons _ _, hl, _ => by cases hl
  | v :: vs, it :: its, a :: accl, n, .cons r t, hl, hh => by
    obtain ⟨T, tk, x, e1, e2, e3, e4⟩ := hh 0 a rfl
    have e2 : it = x := by simpa using e2
    subst e1 e2
    obtain ⟨ps, q1, q2, q3, q4, q5⟩ := build_ps (h := h) (e := e) (n := n + 1) t (Nat.succ.inj hl) fun j w hw => by
      obtain ⟨T', tk', x', p1, p2, p3, p4⟩ := hh (j + 1) w (by simpa using hw)
      exact ⟨T', tk', x', p1, by simpa using p2, by rw [show n + 1 + j = n + (j + 1) by omega]; exact p3, p4⟩
    refine ⟨(T, [.int (n : Int), v]) :: ps, by rw [q1]; rfl, by rw [List.map_cons, q2]; rfl, fun p hp => ?_, ?_, fun p hp => ?_⟩
    · (rcases List.mem_cons.mp hp with rfl | hp)
      · exact ⟨e4, Nat.le_refl _, [.int (n : Int) tk, it], .cons ⟨tk, rfl⟩ (.cons r .nil), ⟨_, e3, rfl, _, rfl⟩⟩
      · exact q3 p hp
    · rw [List.map_cons, List.nodup_cons]
      refine ⟨fun hm => ?_, q4⟩
      obtain ⟨p, hp, e0⟩ := List.mem_map.mp hm
      obtain ⟨j, tk2, x2, hj, g2⟩ := q5 p hp
      have e0 : p.1 = T := e0
      rw [e0, e3] at g2
      have := congrArg (fun o : Option Obj => o.map (·.data)) g2
      simp at this
      omega
    · (rcases List.mem_cons.mp hp with rfl | hp)
      · exact ⟨n, tk, it, Nat.le_refl _, e3⟩
      · obtain ⟨j, tk2, x2, hj, g2⟩ := q5 p hp
        exact ⟨j, tk2, x2, by omega, g2⟩
/-- tuples laid at once -/
def layH (lo : Nat) (ps : List (Addr × List V)) (H : Hp) : Hp := fun b => if b < lo then H b else (ps.lookup b).map HO.tup
theorem lay_lt {lo : Nat} {ps : List (Addr × List V)} {H : Hp} {b : Addr} (h : b < lo) : layH lo ps H b = H b := if_pos h
theorem lookup_of {α : Type} : ∀ {ps : List (Addr × α)} {p : Addr × α}, (ps.map (·.1)).Nodup → p ∈ ps → ps.lookup p.1 = some p.2
  | [], _, _, h => by cases h
  | q :: ps, p, nd, h => by
    (rw [List.map_cons, List.nodup_cons] at nd)
    rcases List.mem_cons.mp h with rfl | h2
    · obtain ⟨a, b⟩ := p
      simp [List.lookup]
    · have hne : (p.1 == q.1) = false := by
        simp only [beq_eq_false_iff_ne]
        intro e
        exact nd.1 (List.mem_map.mpr ⟨p, h2, e⟩)
      obtain ⟨qa, qb⟩ := q
      simp only [List.lookup]
      rw [show (p.1 == qa) = false from hne]
      exact lookup_of nd.2 h2
theorem mem_of_lookupA {α : Type} : ∀ {ps : List (Addr × α)} {b : Addr} {x : α}, ps.lookup b = some x → (b, x) ∈ ps
  | [], _, _, h => by simp [List.lookup] at h
  | (a, y) :: ps, b, x, h => by
    simp only [List.lookup] at h
    split at h
    · rename_i e
      cases h
      rw [beq_iff_eq.mp e]; exact List.mem_cons_self
    · exact List.mem_cons_of_mem _ (mem_of_lookupA h)
section
variable {X : Cx} {pins : List (Addr × Obj)} {σ : L2.St} {H : Hp} {s : Shared} {h' : Heap} {ps : List (Addr × List V)}
theorem inv_lay {tk : Nat} (I : L2.Inv X pins σ H s) (k : ∀ b u, s.heap.get? b = some u → h'.get? b = some u) (hp : ∀ p ∈ ps, s.heap.objs.size ≤ p.1) (hl : ∀ p ∈ ps, p.2.length ≤ sizeLine ∧ ∃ us : List Value, Vals p.2 us ∧ IsTup h' p.1 us.toArray) :
    L2.Inv X pins σ (layH s.heap.objs.size ps H) { s with heap := h', toks := tk } := by
  have lt : ∀ {b : Addr} {u : HO}, H b = some u → b < s.heap.objs.size := fun e => I.hok.lt e
  have same : ∀ {b : Addr} {u : HO}, H b = some u → layH s.heap.objs.size ps H b = some u := fun e => (lay_lt (lt e)).trans e
  refine I.un ⟨fun b u q _ _ _ => k b u q, fun b u q _ _ _ => ⟨u.slots, k b u q⟩, fun b u q n _ => (lay_lt (Heap.lt_size q)).trans n, fun b u q _ => ⟨u, k b u q⟩, fun b xs q => same q, fun b u xs q => same q, fun b xs q => ⟨#[], by rw [same q]; simp⟩⟩ fun b u e => ?_
  by_cases hb : b < s.heap.objs.size
  · rw [lay_lt hb] at e
    exact (I.hok b u e).stay (fun c v _ q => k c v q) (fun c q => same q) fun c xs q => same q
  · have e : (ps.lookup b).map HO.tup = some u := by
      have e2 : (if b < s.heap.objs.size then H b else (ps.lookup b).map HO.tup) = some u := e
      rwa [if_neg hb] at e2
    cases hq : ps.lookup b with
    | none => rw [hq] at e; cases e
    | some xs =>
      rw [hq] at e; cases e
      obtain ⟨z, us, r, t⟩ := hl _ (mem_of_lookupA hq)
      exact ⟨z, us, r, t⟩
end
theorem rds_pairs {K : PySem.W.Frag} {J : Jn} {H : Hp} : ∀ {ds : List D} {vs : List V} {ps : List (Addr × List V)} {n : Nat}, RDs K J H ds vs → ps.map (·.2) = pairsV n vs → (∀ p ∈ ps, p.1 ∉ J.l ∧ p.1 ∉ J.z ∧ H p.1 = some (.tup p.2)) → RDs K J H (enumD n ds) (ps.map fun p => V.ref p.1)
  | _, _, [], _, .nil, _, _ => .nil
  | _, _, _ :: _, _, .nil, e, _ => by cases e
  | _, _, [], _, .cons _ _, e, _ => by cases e
  | d :: ds, v :: vs, p :: ps, n, .cons r t, e, hp => by
    rw [List.map_cons] at e
    have e1 : p.2 = [.int (n : Int), v] := (List.cons.inj e).1
    obtain ⟨q1, q2, q3⟩ := hp p List.mem_cons_self
    rw [e1] at q3
    exact .cons (.tup q1 q2 q3 (by show 2 ≤ sizeLine; decide) (.cons (.int _) (.cons r .nil))) (rds_pairs t (List.cons.inj e).2 fun q hq => hp q (List.mem_cons_of_mem _ hq))
theorem vals_refs : ∀ (ps : List (Addr × List V)), Vals (ps.map fun p => V.ref p.1) (ps.map fun p => Value.ref p.1)
  | [] => .nil
  | p :: ps => .cons rfl (vals_refs ps)
section
variable {X : Cx} {pins : List (Addr × Obj)} {σ : L2.St} {H : Hp} {s : Shared} {J : Jn} {h : Hh}
/-- tuple(enumerate(a tuple)) -/
theorem tenum_run {a : Addr} {ds : List D} {Q : VK} (hc : X.calm = true) (I : L2.Inv X pins σ H s) (rh : RH X.K J h H) (rx : RD X.K J H (.tup ds) (.ref a)) (q : ∀ J' H' v, Ext J H J' H' → RH X.K J' h H' → RD X.K J' H' (.tup (enumD 0 ds)) v → Q v H') :
    wpAny (model X.prog X.w) X.A (call (.type "enumerate") [.ref a]) (fun ev s2 => wpAny (model X.prog X.w) X.A (call (.type "tuple") [ev]) (EP X pins σ Q) X.xe s2) X.xe s := by
  obtain ⟨a', vs, ea, hq, z, rs⟩ := rx.tup_inv
  cases ea
  obtain ⟨its, rv, tp, hz⟩ := I.tuple hq
  (have hh : X.A.handled = none := I.ok.hd hc)
  have la : a < s.heap.objs.size := by obtain ⟨o, g, _⟩ := tp; exact Heap.lt_size g
  refine PVQ.call_enumT tp fun g he hi hsz kp => ?_
  have tp2 : g.IsTuple a its.toArray := (show s.heap.IsTuple a its.toArray from tp).at fun o e => kp a o e
  refine PVQ.call_tupleT (s := { s with heap := g }) hh (Nat.succ_ne_self _) (Nat.ne_of_lt la) (Nat.ne_of_lt (Nat.lt_succ_of_lt la)) (by rw [List.size_toArray, ← rv.length]; exact hz) he hi tp2 fun g' tk acc r1 r2 r3 r4 => ?_
  have keep : ∀ b u, s.heap.get? b = some u → g'.get? b = some u := fun b u e => by
    have lb := Heap.lt_size e
    exact r3 b u (Nat.ne_of_lt (Nat.lt_succ_of_lt lb)) (Nat.ne_of_lt lb) (kp b u e)
  obtain ⟨ps, p1, p2, p3, p4, _⟩ := build_ps (h := g') (e := s.heap.objs.size + 1) (n := 0) (accl := acc.toList) rv (by rw [Array.length_toList, r1, List.size_toArray]) fun j v hv => by
    obtain ⟨T, t2, x, e1, e2, e3, e4⟩ := r2 j v (by simpa using hv)
    exact ⟨T, t2, x, e1, by simpa using e2, by rw [Nat.zero_add]; exact e3, e4⟩
  have lps : ps.length = vs.length := by
    have := congrArg List.length p2
    rw [List.length_map] at this
    rw [this]
    have gen : ∀ (vs : List V) (n : Nat), (pairsV n vs).length = vs.length := by
      intro vs
      induction vs with
      | nil => intro n; rfl
      | cons v vs ih => intro n; show (pairsV (n + 1) vs).length + 1 = _; rw [ih]; rfl
    exact gen vs 0
  -- the last tuple
  have g1 : ∀ p ∈ ps, p.1 < g'.objs.size := fun p hp => by
    obtain ⟨_, _, us, _, o, go, _⟩ := p3 p hp
    exact Heap.lt_size go
  have big : s.heap.objs.size ≤ g'.objs.size := by
    have r4 : g.objs.size < g'.objs.size := r4
    rw [hsz] at r4; exact Nat.le_of_lt (Nat.lt_trans (Nat.lt_succ_of_lt (Nat.lt_succ_self _)) r4)
  let all : List (Addr × List V) := (g'.objs.size, ps.map fun p => V.ref p.1) :: ps
  have nd : (all.map (·.1)).Nodup := by
    show (g'.objs.size :: ps.map (·.1)).Nodup
    refine List.nodup_cons.mpr ⟨fun hm => ?_, p4⟩
    (obtain ⟨p, hp, e⟩ := List.mem_map.mp hm)
    have e : p.1 = g'.objs.size := e
    exact Nat.lt_irrefl _ (e ▸ g1 p hp)
  have acc2 : acc = (ps.map fun p => Value.ref p.1).toArray := by rw [← p1]
  have I2 := inv_lay (ps := all) (h' := g'.push { cls := .type "tuple", data := .seq acc }) (tk := tk) I (fun b u e => Heap.get?_push_of_some _ (keep b u e)) (fun p hp => by
    (rcases List.mem_cons.mp hp with rfl | hp)
    · exact big
    · exact Nat.le_of_lt (Nat.lt_trans (Nat.lt_succ_self _) (p3 p hp).1)) (fun p hp => by
    (rcases List.mem_cons.mp hp with rfl | hp)
    · refine ⟨by rw [List.length_map, lps]; exact z, _, vals_refs ps, ⟨_, Heap.get?_push_size _ rfl, rfl, 0, by rw [acc2]⟩⟩
    · obtain ⟨_, l2, us, ru, o, go, gc⟩ := p3 p hp
      exact ⟨Nat.le_trans l2 (by show 2 ≤ sizeLine; decide), us, ru, ⟨o, Heap.get?_push_of_some _ go, gc⟩⟩)
  have at_ : ∀ p ∈ all, s.heap.objs.size ≤ p.1 → layH s.heap.objs.size all H p.1 = some (.tup p.2) := fun p hp hb => by
    show (if p.1 < s.heap.objs.size then H p.1 else (all.lookup p.1).map HO.tup) = _
    rw [if_neg (Nat.not_lt.mpr hb), lookup_of nd hp]; rfl
  have ext : Ext J H J (layH s.heap.objs.size all H) := ⟨rfl, ⟨[], by simp, by simp⟩, fun b o _ e => (lay_lt (I.hok.lt e)).trans e⟩
  have nl : ∀ b, s.heap.objs.size ≤ b → b ∉ J.l ∧ b ∉ J.z := fun b hb => by
    have hn : H b = none := I.hok.fresh hb
    exact ⟨rh.notin hn, rh.notz hn⟩
  have rh2 : RH X.K J h (layH s.heap.objs.size all H) := ⟨rh.nd, rh.len, fun i o e => by
    obtain ⟨b, u, h1, h2, h3⟩ := rh.obj i o e
    exact ⟨b, u, h1, (lay_lt (I.hok.lt h2)).trans h2, h3.ext ext⟩, rh.apart, fun b hb => by
    cases hbu : H b with
    | none => exact absurd hbu (rh.zed b hb)
    | some u => rw [(lay_lt (I.hok.lt hbu)).trans hbu]; simp⟩
  refine ⟨.ref g'.objs.size, _, I2, rfl, q J _ _ ext rh2 (.tup (nl _ big).1 (nl _ big).2 (at_ _ List.mem_cons_self big) (by rw [List.length_map, lps]; exact z) (rds_pairs (rs.ext ext) p2 fun p hp => ?_))⟩
  have hb : s.heap.objs.size ≤ p.1 := Nat.le_of_lt (Nat.lt_trans (Nat.lt_succ_self _) (p3 p hp).1)
  exact ⟨(nl _ hb).1, (nl _ hb).2, at_ p (List.mem_cons_of_mem _ hp) hb⟩
end
end PV
end

section
set_option maxRecDepth 100000
/-! PvS: t.index(n), t a tuple or a list of whole numbers, n in it; a written tuple as a frozen object whose dict is known. -/
namespace PV
open PySem PySem.Spec PyProof.Rows L2 PV
theorem intsAre_of : ∀ {ns : List Int} {us : List Value}, Vals (ns.map V.int) us → IntsAre us ns
  | [], _, .nil => .nil
  | n :: ns, _, .cons r t => by
    obtain ⟨k, rfl⟩ := r
    exact .cons n k (intsAre_of t)
section
variable {X : Cx}
def rIdx (S : PySem.W.Frag → Hp → Addr → List V → Prop) (K : PySem.W.Frag) : V → List V → Hp → VK → Prop :=
  fun x xs H Q => ∃ p, ∃ ns : List Int, ∃ z, x = .ref p ∧ xs = [.int z] ∧ S K H p (ns.map V.int) ∧ z ∈ ns ∧ Q (.int (ns.idxOf z : Nat)) H
theorem mt_tupIdx : MtR X "tuple.index" (rIdx SqT X.K) := by
  intro pins s σ H x xs v us Q I rx rs g
  obtain ⟨p, ns, z, rfl, rfl, hq, hz, q⟩ := g
  cases rx
  (obtain ⟨u, rfl, t, rfl⟩ := vals1 rs)
  obtain ⟨its, r, pl, hl⟩ := I.tuple hq
  exact SeqAt.tuple_index_ints pl (intsAre_of r) hz ⟨.int (ns.idxOf z : Nat), H, I.tok _, ⟨_, rfl⟩, q⟩
theorem mt_lstIdx : MtR X "list.index" (rIdx SqL X.K) := by
  intro pins s σ H x xs v us Q I rx rs g
  obtain ⟨p, ns, z, rfl, rfl, hq, hz, q⟩ := g
  cases rx
  (obtain ⟨u, rfl, t, rfl⟩ := vals1 rs)
  obtain ⟨its, r, ⟨o, n, p1, p2, p3, p4⟩, hl⟩ := I.list hq
  exact SeqAt.list_index_ints ⟨o, p1, p2, n, p4⟩ (intsAre_of r) (by rw [List.length_map] at hl; exact hl) hz ⟨.int (ns.idxOf z : Nat), H, I.tok _, ⟨_, rfl⟩, q⟩
/-- a written tuple, its cell a frozen object without a dict -/
def tFtup (t : TA) : TE := fun σ H Q => t σ H fun xs H1 => xs.length ≤ sizeLine ∧ ∀ p o, H1 p = none → o.cls = .type "tuple" → o.dict = none → Q (.ref p) (upd H1 p (.frz o (.tup xs)))
theorem pe_ftup {es : List Expr} {t : TA} {pos : Pos} {x1 : Nat} (h : PA X es t) : PE X (.Tuple es x1 pos) (tFtup t) := by
  (refine ⟨fun pins s σ H Q I hq => ?_⟩)
  (refine wpAny_Tuple_spliced (thn (h.run pos pins s σ H _ I hq) fun us s1 ⟨xs, H1, I1, r, z, q⟩ => ⟨by rw [← r.length]; exact z, ?_⟩))
  (have hf : H1 s1.heap.objs.size = none := I1.hok.fresh (Nat.le_refl _))
  have e0 := Heap.get?_push_size s1.heap (o := { cls := .type "tuple", data := .seq us.toArray }) rfl
  refine ⟨.ref s1.heap.objs.size, _, I1.laid (t' := s1.toks) (fun b u e => Heap.get?_push_of_some _ e) (Nat.le_refl _) ?_, rfl, q _ { cls := .type "tuple", data := .seq us.toArray } hf rfl rfl⟩
  exact ⟨e0, z, us, r, ⟨_, e0, rfl, _, rfl⟩⟩
/-- a method of a tuple whose dict is known to be none -/
def tFM (r : V → List V → Hp → VK → Prop) (to : TE) (t : TA) : TE := fun σ H Q => to σ H fun x H1 => (∃ p o xs, x = .ref p ∧ H1 p = some (.frz o (.tup xs)) ∧ o.cls = .type "tuple" ∧ o.dict = none) ∧ t σ H1 fun xs H2 => r x xs H2 Q
theorem pe_fm {o e : Expr} {es : List Expr} {to : TE} {t : TA} {name : Str} {apos cpos : Pos} {id : String} {r : V → List V → Hp → VK → Prop} (slot : Slot "tuple" name id) (hty : typeOf (.builtin id) = pure (.type "method_descriptor")) (hm : MtR X id r) (ho : PE X o to) (ha : PA X (e :: es) t)
    (hbase : attributeBase o name X.env (eval o X.env) = eval o X.env)
    (hfew : ((backTo cpos (starEach (e :: es) X.env)).all (fun x => !x.1) && (backToKw cpos (keywordEach [] X.env)).all (fun x => x.1.isSome) && decide ((e :: es).length + ([] : List Keyword).length + (if ([] : List Keyword).isEmpty then 0 else 1) < 30)) = true)
    (hline : (apos.endLine == cpos.line) = true) (hs : starEach (e :: es) X.env = (false, eval e X.env) :: starEach es X.env) (hplain : (backTo cpos (starEach es X.env)).any (·.1) = false) :
    PE X (.Call (.Attribute o name apos) (e :: es) [] cpos) (tFM r to t) := by
  (refine ⟨fun pins s σ H Q I h => ?_⟩)
  refine wpAny_Call_method_late hbase hfew hline rfl (thn (ho.run pins s σ H _ I h) fun v s1 ⟨x, H1, I1, r1, ⟨p, ob, ys, ex, hp, hc, hd⟩, q1⟩ => ?_)
  subst ex
  cases r1
  obtain ⟨e0, _⟩ := (show ObjOk X.prog X.w H1 s1.heap p (.frz ob (.tup ys)) from I1.hok p _ hp)
  refine ⟨"tuple", id, PySem.F.plainAttrs_tuple, slot, hty, ⟨ob, e0, hc⟩, fun a ea => by cases ea; exact ⟨ob, e0, hd⟩, ?_⟩
  (have hA := ha.run cpos pins s1 σ H1 _ I1 q1)
  rw [hs] at hA ⊢
  (refine Calls.callWith_builtin (by show (false || (backTo cpos (starEach es X.env)).any (·.1)) = false; rw [hplain] <;> rfl) (Calls.evalArgs_plain ?_))
  refine thn hA fun us s2 ⟨xs, H2, I2, rs, q2⟩ => ?_
  exact hm pins s2 σ H2 (.ref p) xs (.ref p) us Q I2 rfl rs q2
end
end PV
end

section
set_option maxRecDepth 100000
namespace PV
open L2 PySem PySem.Spec PyProof.Rows
section
variable {X : Cx} {e x a b tg : Expr} {p pa pb pc : P} {pos np cpos apos : Pos} {K : PySem.W.Frag} {J : Jn} {H : Hp} {h : Hh} {es : List Expr} {pl : PL} {y : Str}

theorem lcLoop_lst (good : Hh → Bool) (turn : D → Hh → R (Option D)) : ∀ (xs acc : List D) (h : Hh) (d : D) (h' : Hh), lcLoop good turn xs acc h = .ok d h' → ∃ ds, d = .lst ds
  | [], acc, h, d, h', e => by
    unfold lcLoop at e
    split at e
    · cases e; exact ⟨_, rfl⟩
    · cases e
  | x :: xs, acc, h, d, h', e => by
    unfold lcLoop at e
    split at e
    · split at e
      · exact lcLoop_lst good turn xs _ _ d h' e
      · exact lcLoop_lst good turn xs _ _ d h' e
      · cases e
    · cases e
theorem lc_lst {f : Env → Hh → R Src} {t : Tg} {pt pe : P} (ρ : Env) (h : Hh) (d : D) (h' : Hh)
    (e : ((f ρ h).bind fun s h1 => if sizeOk s.items.length then lcLoop s.good (lcTurn t pt pe ρ) s.items [] h1 else .bad) = .ok d h') : ∃ ds, d = .lst ds := by
  cases ev : f ρ h with
  | ok s h1 =>
    rw [ev, R.bind_ok] at e
    split at e
    · exact lcLoop_lst _ _ _ _ _ _ _ e
    · cases e
  | bad => rw [ev] at e; cases e
  | err _ _ => rw [ev] at e; cases e

/-! ### an empty dict -/
theorem se_dic0 : SE X (.Dict [] [] pos) (.plain fun _ h => .ok (.ref h.length) (h ++ [.dct []])) := by
  refine SE.plain (pe_dnewK.imp fun σ H Q ⟨ρ, h, J, re, rh, q⟩ => ?_) (fun _ => rfl)
  intro p np
  have rh2 : RH X.K (J.own p) (h ++ [.dct []]) (upd H p (.dK [])) := (rh.hide np).own (rh.notz np) upd_same (.dct (Nat.zero_le _) .nil)
  refine q _ _ _ (Ext.own np (Ext.laid np)) rh2 (.ref ?_)
  show (J.l ++ [p])[h.length]? = some p
  rw [← rh.len, List.getElem?_append_right (Nat.le_refl _)]; simp

/-! ### calls -/
def plainXs : List Expr → Bool
  | [] => true
  | e :: es => plainX e && plainXs es
theorem plainXs_any (pos : Pos) (env : PySem.Env) : ∀ {es : List Expr}, plainXs es = true → (backTo pos (starEach es env)).any (·.1) = false
  | [], _ => rfl
  | e :: es, h => by
    simp only [plainXs, Bool.and_eq_true] at h
    rw [plain_star h.1]
    have := plainXs_any pos env h.2
    unfold backTo at this ⊢
    rw [List.map_cons, List.any_cons, this]; rfl
theorem glb_dbg {c : Cs} (h : c.glb y = true) : (y == ("__debug__" : Str)) = false := by
  simp only [Cs.glb, Bool.and_eq_true, Bool.not_eq_true'] at h; exact h.2
section
variable {c : Cs} {F : Fns} {G : List D} {fn : Fn} {f : Nat}
/-- the callee runs -/
theorem run_g {k : Nat} {fa : Addr} {fd : FuncData} {ps : List Str} {sp : Sp} {pins : List (Addr × Obj)} {σ : L2.St} {H : Hp} {s : Shared} {Q : VK} {args : Args} {us : List Value} {vs : List V} (hF : FnG X.prog X.w X.K X.mg X.base k fa fd ps sp) (hr : Room k X.A) (hgd : X.A.guards = some [])
    (I : L2.Inv X pins σ H s) (hb : BindsTo s fd args (ps.zip us)) (r : Vals vs us) (h : sp vs H Q E0) : wpAny (model X.prog X.w) X.A (PySem.call (.ref fa) args.pos args.kw) (EP X pins σ Q) X.xe s := by
  refine wpAny_call (codeAny_mono (hF.go hr hgd I.env0 hb r h) fun o s' hq => ?_)
  cases o with
  | error e =>
    obtain ⟨_, _, _, _, _, _, _, _, _, _, _, _, z⟩ := hq
    exact z.elim
  | ok fl =>
    cases fl with
    | ret u => exact I.after hq
    | next => exact False.elim hq
    | brk => exact False.elim hq
    | cont => exact False.elim hq
theorem se_call (o : Ok c F G X) (hc0 : c.hot = false) (hf : c.T[f]? = some fn) (hn : fn.name = y) (hg : c.glb y = true) (hp : plainXs es = true) (h0 : es = [] → pl.l = fun _ h => .ok [] h) (hlen : ∀ ρ h ds h', pl.l ρ h = .ok ds h' → ds.length = fn.P.length) (hl : SEs X es pl) :
    SE X (.Call (.Name y np) es [] pos) (.plain fun ρ h => (pl.l ρ h).bind fun xs h1 => F f xs h1) := by
  obtain ⟨k, hr, hgd, hc⟩ := (o.call hc0).ok
  obtain ⟨fa, fd, hm, hk, hF, hb, _⟩ := hc f fn hf
  rw [hn] at hm
  obtain ⟨g1, g2⟩ := glb_ok o hg
  refine SE.plain ⟨fun pins s σ H Q I ⟨ρ, h, J, re, rh, q⟩ => ?_⟩ (fun _ => rfl)
  refine wpAny_Call_Name_kw (ld_glob I g1 hm ?_ g2)
  have run : ∀ {us : List Value} {vs : List V} {J1 : Jn} {h1 : Hh} {H1 : Hp} {s1 : Shared} {ds : List D}, L2.Inv X pins σ H1 s1 → Vals vs us → RH X.K J1 h1 H1 → RDs X.K J1 H1 ds vs → ds.length = fn.P.length → Post X.K J1 H1 (rD X.K) (F f ds h1) Q →
      wpAny (model X.prog X.w) X.A (PySem.call (.ref fa) us) (EP X pins σ Q) X.xe s1 := by
    intro us vs J1 h1 H1 s1 ds I1 r rh1 rs hl1 q1
    have hul : us.length = fn.P.length := by rw [← r.length, ← rs.length]; exact hl1
    have hb1 := hb s1 us I1.kIn (by rw [List.append_nil]; exact hul)
    rw [List.append_nil] at hb1
    exact run_g (args := ⟨us, []⟩) hF hr hgd I1 hb1 r ⟨by rw [← rs.length]; exact hl1, J1, h1, ds, rs, rh1, q1.x⟩
  cases es with
  | nil =>
    rw [h0 rfl] at q
    exact PySem.W.callWith_K0 I.kIn hk (run (us := []) (ds := []) I .nil rh .nil (hlen [] [] [] [] (by rw [h0 rfl])) q)
  | cons e es =>
    simp only [plainXs, Bool.and_eq_true] at hp
    refine PySem.W.callWith_K (h₀ := X.base) I.ok.mod.kin hk (thn (hl.l.run pos pins s σ H _ I (?_ : tG X.K (rDs X.K) pl.l σ H (fun vs H1 => ∃ J1 h1 ds, RH X.K J1 h1 H1 ∧ RDs X.K J1 H1 ds vs ∧ ds.length = fn.P.length ∧ Post X.K J1 H1 (rD X.K) (F f ds h1) Q))) fun us s1 ⟨vs, H1, I1, r, J1, h1, ds, rh1, rs, hl1, q1⟩ => ⟨I1.kIn, run I1 r rh1 rs hl1 q1⟩) (plain_star hp.1 _ _) (plainXs_any _ _ hp.2)
    refine ⟨ρ, h, J, re, rh, ?_⟩
    dsimp only at q
    cases ev : pl.l ρ h with
    | bad => rw [ev] at q; exact q
    | err _ _ => rw [ev] at q; exact q
    | ok ds h1 =>
      rw [ev, R.bind_ok] at q
      exact fun J1 H1 vs e1 rh1 rs => ⟨J1, h1, ds, rh1, rs, hlen _ _ _ _ ev, Post.ext rh rh1 e1 q⟩

/-- .. within a suite -/
theorem run_q {k : Nat} {fa : Addr} {fd : FuncData} {ps : List Str} {sp : Sp} {pins : List (Addr × Obj)} {σ : L2.St} {H : Hp} {s : Shared} {Q : VK} {args : Args} {us : List Value} {vs : List V} (hF : FnQ X.prog X.w X.K X.mg X.base k fa fd ps sp) (hr : L2H.RoomH k X.A) (hgd : X.A.guards = some [])
    (I : L2.Inv X pins σ H s) (hb : BindsTo s fd args (ps.zip us)) (r : Vals vs us) (h : sp vs H Q E0) : wpAny (model X.prog X.w) X.A (PySem.call (.ref fa) args.pos args.kw) (EP X pins σ Q) X.xe s := by
  refine wpAny_call (codeAny_mono (hF.go hr hgd I.env0 hb r h) fun o s' hq => ?_)
  cases o with
  | error e =>
    obtain ⟨_, _, _, _, _, _, _, _, _, _, _, _, z⟩ := hq
    exact z.elim
  | ok fl =>
    cases fl with
    | ret u => exact I.after hq
    | next => exact False.elim hq
    | brk => exact False.elim hq
    | cont => exact False.elim hq
theorem se_callQ (o : Ok c F G X) (hq : f ∈ c.qt) (hf : c.T[f]? = some fn) (hn : fn.name = y) (hg : c.glb y = true) (hp : plainXs es = true) (h0 : es = [] → pl.l = fun _ h => .ok [] h) (hlen : ∀ ρ h ds h', pl.l ρ h = .ok ds h' → ds.length = fn.P.length) (hl : SEs X es pl) :
    SE X (.Call (.Name y np) es [] pos) (.plain fun ρ h => (pl.l ρ h).bind fun xs h1 => F f xs h1) := by
  obtain ⟨k, hr, hgd, hc⟩ := o.quiet.ok
  obtain ⟨fa, fd, hm, hk, hF, hb⟩ := hc f fn hq hf
  rw [hn] at hm
  obtain ⟨g1, g2⟩ := glb_ok o hg
  refine SE.plain ⟨fun pins s σ H Q I ⟨ρ, h, J, re, rh, q⟩ => ?_⟩ (fun _ => rfl)
  refine wpAny_Call_Name_kw (ld_glob I g1 hm ?_ g2)
  have run : ∀ {us : List Value} {vs : List V} {J1 : Jn} {h1 : Hh} {H1 : Hp} {s1 : Shared} {ds : List D}, L2.Inv X pins σ H1 s1 → Vals vs us → RH X.K J1 h1 H1 → RDs X.K J1 H1 ds vs → ds.length = fn.P.length → Post X.K J1 H1 (rD X.K) (F f ds h1) Q →
      wpAny (model X.prog X.w) X.A (PySem.call (.ref fa) us) (EP X pins σ Q) X.xe s1 := by
    intro us vs J1 h1 H1 s1 ds I1 r rh1 rs hl1 q1
    have hul : us.length = fn.P.length := by rw [← r.length, ← rs.length]; exact hl1
    have hb1 := hb s1 us I1.kIn (by rw [List.append_nil]; exact hul)
    rw [List.append_nil] at hb1
    exact run_q (args := ⟨us, []⟩) hF hr hgd I1 hb1 r ⟨by rw [← rs.length]; exact hl1, J1, h1, ds, rs, rh1, q1.x⟩
  cases es with
  | nil =>
    rw [h0 rfl] at q
    exact PySem.W.callWith_K0 I.kIn hk (run (us := []) (ds := []) I .nil rh .nil (hlen [] [] [] [] (by rw [h0 rfl])) q)
  | cons e es =>
    simp only [plainXs, Bool.and_eq_true] at hp
    refine PySem.W.callWith_K (h₀ := X.base) I.ok.mod.kin hk (thn (hl.l.run pos pins s σ H _ I (?_ : tG X.K (rDs X.K) pl.l σ H (fun vs H1 => ∃ J1 h1 ds, RH X.K J1 h1 H1 ∧ RDs X.K J1 H1 ds vs ∧ ds.length = fn.P.length ∧ Post X.K J1 H1 (rD X.K) (F f ds h1) Q))) fun us s1 ⟨vs, H1, I1, r, J1, h1, ds, rh1, rs, hl1, q1⟩ => ⟨I1.kIn, run I1 r rh1 rs hl1 q1⟩) (plain_star hp.1 _ _) (plainXs_any _ _ hp.2)
    refine ⟨ρ, h, J, re, rh, ?_⟩
    dsimp only at q
    cases ev : pl.l ρ h with
    | bad => rw [ev] at q; exact q
    | err _ _ => rw [ev] at q; exact q
    | ok ds h1 =>
      rw [ev, R.bind_ok] at q
      exact fun J1 H1 vs e1 rh1 rs => ⟨J1, h1, ds, rh1, rs, hlen _ _ _ _ ev, Post.ext rh rh1 e1 q⟩

/-- the callee runs, an exception goes on -/
theorem run_gX {W : WX} {k : Nat} {fa : Addr} {fd : FuncData} {ps : List Str} {sp : Sp} {pins : List (Addr × Obj)} {σ : L2.St} {H : Hp} {s : Shared} {Q : VK} {args : Args} {us : List Value} {vs : List V} (hF : FnG X.prog X.w X.K X.mg X.base k fa fd ps sp) (hr : Room k X.A) (hgd : X.A.guards = some []) (tk : L2N.Takes X W)
    (I : L2.Inv X pins σ H s) (hb : BindsTo s fd args (ps.zip us)) (r : Vals vs us) (h : sp vs H Q (WE W σ)) : wpAny (model X.prog X.w) X.A (PySem.call (.ref fa) args.pos args.kw) (EP X pins σ Q) X.xe s := by
  refine wpAny_call (codeAny_mono (hF.go hr hgd I.env0 hb r h) fun o s' hq => ?_)
  cases o with
  | error e => exact tk e s' (L2N.XE.of_call I (fun _ _ _ z => z) hq)
  | ok fl =>
    cases fl with
    | ret u => exact I.after hq
    | next => exact (False.elim hq)
    | brk => exact (False.elim hq)
    | cont => exact (False.elim hq)
/-- what is wanted behind a call whose exception goes on -/
def tCX (X : Cx) (W : WX) (F : Fns) (f n : Nat) (l : Env → Hh → R (List D)) : TE := fun σ H Q => tG X.K (rDs X.K) l σ H (fun vs H1 => ∃ J1 h1 ds, RH X.K J1 h1 H1 ∧ RDs X.K J1 H1 ds vs ∧ ds.length = n ∧ PostX X.K X.mg (WE W σ) J1 H1 (rD X.K) (F f ds h1) Q)
theorem pe_callX {W : WX} (o : Ok c F G X) (hc0 : c.hot = false) (tk : L2N.Takes X W) (hf : c.T[f]? = some fn) (hn : fn.name = y) (hg : c.glb y = true) (hp : plainXs es = true) (h0 : es = [] → pl.l = fun _ h => .ok [] h) (hl : SEs X es pl) :
    PE X (.Call (.Name y np) es [] pos) (tCX X W F f fn.P.length pl.l) := by
  obtain ⟨k, hr, hgd, hc⟩ := (o.call hc0).ok
  obtain ⟨fa, fd, hm, hk, hF, hb, _⟩ := hc f fn hf
  rw [hn] at hm
  obtain ⟨g1, g2⟩ := glb_ok o hg
  (refine ⟨fun pins s σ H Q I q => ?_⟩)
  refine wpAny_Call_Name_kw (ld_glob I g1 hm ?_ g2)
  have run : ∀ {us : List Value} {vs : List V} {J1 : Jn} {h1 : Hh} {H1 : Hp} {s1 : Shared} {ds : List D}, L2.Inv X pins σ H1 s1 → Vals vs us → RH X.K J1 h1 H1 → RDs X.K J1 H1 ds vs → ds.length = fn.P.length → PostX X.K X.mg (WE W σ) J1 H1 (rD X.K) (F f ds h1) Q →
      wpAny (model X.prog X.w) X.A (PySem.call (.ref fa) us) (EP X pins σ Q) X.xe s1 := by
    intro us vs J1 h1 H1 s1 ds I1 r rh1 rs hl1 q1
    have hul : us.length = fn.P.length := by rw [← r.length, ← rs.length]; exact hl1
    have hb1 := hb s1 us I1.kIn (by rw [List.append_nil]; exact hul)
    rw [List.append_nil] at hb1
    exact run_gX (args := ⟨us, []⟩) hF hr hgd tk I1 hb1 r ⟨by rw [← rs.length]; exact hl1, J1, h1, ds, rs, rh1, q1⟩
  cases es with
  | nil =>
    unfold tCX at q
    rw [h0 rfl] at q
    obtain ⟨ρ, h, J, re, rh, q⟩ := q
    obtain ⟨J1, h1, ds, rh1, rs, hl1, q1⟩ := q J H [] Ext.refl rh .nil
    exact PySem.W.callWith_K0 I.kIn hk (run (us := []) I .nil rh1 rs hl1 q1)
  | cons e es =>
    simp only [plainXs, Bool.and_eq_true] at hp
    exact PySem.W.callWith_K (h₀ := X.base) I.ok.mod.kin hk (thn (hl.l.run pos pins s σ H _ I q) fun us s1 ⟨vs, H1, I1, r, J1, h1, ds, rh1, rs, hl1, q1⟩ => ⟨I1.kIn, run I1 r rh1 rs hl1 q1⟩) (plain_star hp.1 _ _) (plainXs_any _ _ hp.2)

/-! ### calls with keywords -/
def kwNms (kws : List Keyword) : List Str := kws.filterMap (·.arg)
def kwAll (kws : List Keyword) : Bool := kws.all (·.arg.isSome)
theorem kws_facts (pos : Pos) (env : PySem.Env) : ∀ {kws : List Keyword}, kwAll kws = true → (backToKw pos (keywordEach kws env)).all (·.1.isSome) = true ∧ (backToKw pos (keywordEach kws env)).filterMap (·.1) = kwNms kws ∧ (backToKw pos (keywordEach kws env)).any (·.1.isNone) = false
  | [], _ => ⟨rfl, rfl, rfl⟩
  | ⟨nm, e, kp⟩ :: kws, h => by
    simp only [kwAll, List.all_cons, Bool.and_eq_true] at h
    obtain ⟨i1, i2, i3⟩ := kws_facts pos env (kws := kws) h.2
    cases nm with
    | none => cases h.1
    | some nm =>
      refine ⟨?_, ?_, ?_⟩
      · show (true && _) = true
        exact i1
      · exact congrArg (nm :: ·) i2
      · show (false || _) = false
        exact i3
theorem vals_getD : ∀ {vs : List V} {us : List Value} (k : Nat), Vals vs us → RelV (vs.getD k .non) (us.getD k .none)
  | _, _, _, .nil => by simp; rfl
  | _, _, 0, .cons r _ => r
  | _, _, k + 1, .cons _ t => by simpa using vals_getD k t
theorem vals_pm {vs zs : List V} {us ws : List Value} (r : Vals vs us) (z : Vals zs ws) : ∀ pm : List Nat, Vals (pmD .non pm vs zs) (pmD .none pm us ws)
  | [] => .nil
  | k :: pm => .cons (vals_getD k (r.append z)) (vals_pm r z pm)
theorem rds_getD {K : PySem.W.Frag} {J : Jn} {H : Hp} : ∀ {ds : List D} {vs : List V} (k : Nat), RDs K J H ds vs → RD K J H (ds.getD k .non) (vs.getD k .non)
  | _, _, _, .nil => by simp; exact .non
  | _, _, 0, .cons r _ => r
  | _, _, k + 1, .cons _ t => by simpa using rds_getD k t
theorem rds_pm {K : PySem.W.Frag} {J : Jn} {H : Hp} {ds es : List D} {vs ws : List V} (r : RDs K J H ds vs) (z : RDs K J H es ws) : ∀ pm : List Nat, RDs K J H (pmD .non pm ds es) (pmD .non pm vs ws)
  | [] => .nil
  | k :: pm => .cons (rds_getD k (r.append z)) (rds_pm r z pm)
theorem pm_len {α : Type} {d : α} {pm : List Nat} {xs ys : List α} : (pmD d pm xs ys).length = pm.length := by simp [pmD]
theorem se_callK {kws : List Keyword} {pk : PL} {n : Nat} {pm : List Nat} (o : Ok c F G X) (hc0 : c.hot = false) (hf : c.T[f]? = some fn) (hn : fn.name = y) (hg : c.glb y = true) (hp : plainXs es = true) (hq : (n, kwNms kws, pm) ∈ fn.kw) (h0 : es = [] → pl.l = fun _ h => .ok [] h)
    (hlen : ∀ ρ h ds h', pl.l ρ h = .ok ds h' → ds.length = n) (hkl : ∀ ρ h ds h', pk.l ρ h = .ok ds h' → ds.length = (kwNms kws).length) (hka : kwAll kws = true) (hl : SEs X es pl) (hk : SEs X (kws.map (·.value)) pk) :
    SE X (.Call (.Name y np) es kws pos) (.plain fun ρ h => (pl.l ρ h).bind fun xs h1 => (pk.l ρ h1).bind fun ys h2 => F f (pmD .non pm xs ys) h2) := by
  obtain ⟨k, hr, hgd, hc⟩ := (o.call hc0).ok
  obtain ⟨fa, fd, hm, hkp, hF, hb, hkw⟩ := hc f fn hf
  have hkw := hkw _ hq
  rw [hn] at hm
  obtain ⟨g1, g2⟩ := glb_ok o hg
  obtain ⟨k1, k2, k3⟩ := kws_facts pos X.env hka
  refine SE.plain ⟨fun pins s σ H Q I ⟨ρ, h, J, re, rh, q⟩ => ?_⟩ (fun _ => rfl)
  refine wpAny_Call_Name_kw (ld_glob I g1 hm ?_ g2)
  -- the keywords and the call
  have tail : ∀ {us : List Value} {vs : List V} {J1 : Jn} {h1 : Hh} {H1 : Hp} {s1 : Shared} {ds : List D}, Inv X pins σ H1 s1 → Vals vs us → RE X.K J1 H1 ρ σ → RH X.K J1 h1 H1 → RDs X.K J1 H1 ds vs → vs.length = n →
      Post X.K J1 H1 (rD X.K) ((pk.l ρ h1).bind fun ys h2 => F f (pmD .non pm ds ys) h2) Q →
      wpAny (model X.prog X.w) X.A (evalAll ((backToKw pos (keywordEach kws X.env)).map (·.2))) (fun ks s₂ => X.K.In s₂.heap ∧ wpAny (model X.prog X.w) X.A (PySem.call (.ref fa) us (((backToKw pos (keywordEach kws X.env)).filterMap (·.1)).zip ks)) (EP X pins σ Q) X.xe s₂) X.xe s1 := by
    intro us vs J1 h1 H1 s1 ds I1 r re1 rh1 rs hl1 q1
    have hd : tG X.K (rDs X.K) pk.l σ H1 (fun zs H2 => zs.length = (kwNms kws).length ∧ ∃ J2 h2 es, RDs X.K J2 H2 (pmD .non pm ds es) (pmD .non pm vs zs) ∧ RH X.K J2 h2 H2 ∧ Post X.K J2 H2 (rD X.K) (F f (pmD .non pm ds es) h2) Q) := by
      refine ⟨ρ, h1, J1, re1, rh1, ?_⟩
      cases ev : pk.l ρ h1 with
      | bad => rw [ev] at q1; exact q1
      | err _ _ => rw [ev] at q1; exact q1
      | ok es h2 =>
        rw [ev, R.bind_ok] at q1
        intro J2 H2 zs e2 rh2 rz
        exact ⟨by rw [← rz.length]; exact hkl _ _ _ _ ev, J2, h2, es, rds_pm (rs.ext e2) rz pm, rh2, Post.ext rh1 rh2 e2 q1⟩
    refine thn ((hk.kw kws rfl).run pos pins s1 σ H1 _ I1 hd) fun ws s2 ⟨zs, H2, I2, rz, hzl, J2, h2, es, rr, rh2, q2⟩ => ⟨I2.kIn, ?_⟩
    rw [k2]
    refine run_g (args := ⟨us, (kwNms kws).zip ws⟩) hF hr hgd I2 (hkw.to s2 us ws I2.kIn ?_ ?_) (vals_pm r rz pm) ⟨?_, J2, h2, _, rr, rh2, q2.x⟩
    · rw [← r.length]; exact hl1
    · rw [← rz.length]; exact hzl
    · rw [pm_len, hkw.len]
  cases es with
  | nil =>
    rw [h0 rfl] at q
    refine PySem.W.callWith_KW0 (h₀ := X.base) I.ok.mod.kin hkp k1 (tail I .nil re rh .nil ?_ q) (by rw [k3]; rfl)
    have := hlen [] [] [] [] (by rw [h0 rfl])
    exact this
  | cons e es =>
    have hp' := hp
    simp only [plainXs, Bool.and_eq_true] at hp'
    refine PySem.W.callWith_KW (h₀ := X.base) I.ok.mod.kin hkp k1 (thn (hl.l.run pos pins s σ H _ I (?_ : tG X.K (rDs X.K) pl.l σ H (fun vs H1 => vs.length = n ∧ ∃ J1 h1 ds, RE X.K J1 H1 ρ σ ∧ RH X.K J1 h1 H1 ∧ RDs X.K J1 H1 ds vs ∧ Post X.K J1 H1 (rD X.K) ((pk.l ρ h1).bind fun ys h2 => F f (pmD .non pm ds ys) h2) Q))) fun us s1 ⟨vs, H1, I1, r, hvl, J1, h1, ds, re1, rh1, rs, q1⟩ => tail I1 r re1 rh1 rs hvl q1) (by rw [plainXs_any pos X.env hp, k3]; rfl) (plain_star hp'.1 _ _)
    refine ⟨ρ, h, J, re, rh, ?_⟩
    dsimp only at q
    cases ev : pl.l ρ h with
    | bad => rw [ev] at q; exact q
    | err _ _ => rw [ev] at q; exact q
    | ok ds h1 =>
      rw [ev, R.bind_ok] at q
      intro J1 H1 vs e1 rh1 rs
      exact ⟨by rw [← rs.length]; exact hlen _ _ _ _ ev, J1, h1, ds, re.ext e1, rh1, rs, Post.ext rh rh1 e1 q⟩

/-! ### built-in functions -/
def bfNm : Bf → Str
  | .len => "len" | .int => "int" | .abs => "abs" | .tuple => "tuple" | .list => "list" | .max2 => "max" | .min2 => "min" | .sum => "sum" | .all => "all" | .any => "any" | .sorted => "sorted" | .repr => "repr"
theorem bf_do {σ : L2.St} {H : Hp} {Q : VK} {f : Hh → List D → Option D} (t : tG X.K (rD X.K) (fun ρ h => (pl.l ρ h).bind fun xs h1 => R.opt (f h1 xs) h1) σ H Q) : tCB (rBf X.K f) (tG X.K (rDs X.K) pl.l) σ H Q := by
  obtain ⟨ρ, h, J, re, rh, q⟩ := t
  refine (Post.step (R1 := rDs X.K) (f := pl.l) re rh q).mono fun xs H1 ⟨J1, h1, ds, e1, re1, rh1, rs, q1⟩ => ?_
  obtain ⟨d, hd, q2⟩ := Post.optX q1
  exact ⟨J1, h1, ds, d, rh1, rs, hd, q2⟩
theorem se_bfB {id : String} {f : Hh → List D → Option D} (hc : CallR X (.builtin id) (rBf X.K f)) (hb : bootBuiltins y = some (.builtin id)) (hn : y ≠ "__name__") (o : Ok c F G X) (hm : y ∈ c.bs) (hg : c.glb y = true) (he : plainXs (e :: es) = true) (hl : SEs X (e :: es) pl) :
    SE X (.Call (.Name y np) (e :: es) [] pos) (.plain fun ρ h => (pl.l ρ h).bind fun xs h1 => R.opt (f h1 xs) h1) := by
  simp only [plainXs, Bool.and_eq_true] at he
  exact SE.plain ((pe_callB hc (glb_ok o hg).1 (o.blt y hm) hb hl.l hn (glb_ok o hg).2 (plain_star he.1 _ _) (plainXs_any _ _ he.2)).imp fun σ H Q t => bf_do t) (fun _ => rfl)
theorem se_bfT {id : String} {f : Hh → List D → Option D} (hc : CallR X (.type id) (rBf X.K f)) (hb : bootBuiltins y = some (.type id)) (hn : y ≠ "__name__") (o : Ok c F G X) (hm : y ∈ c.bs) (hg : c.glb y = true) (he : plainXs (e :: es) = true) (hl : SEs X (e :: es) pl) :
    SE X (.Call (.Name y np) (e :: es) [] pos) (.plain fun ρ h => (pl.l ρ h).bind fun xs h1 => R.opt (f h1 xs) h1) := by
  simp only [plainXs, Bool.and_eq_true] at he
  exact SE.plain ((pe_callTy hc (glb_ok o hg).1 (o.blt y hm) hb hl.l hn (glb_ok o hg).2 (plain_star he.1 _ _) (plainXs_any _ _ he.2)).imp fun σ H Q t => bf_do t) (fun _ => rfl)
def bfOn : Bf → Bool
  | .list => false
  | _ => true
theorem se_bf {f : Bf} (hf : bfOn f = true) (o : Ok c F G X) (hc0 : c.hot = false) (hm : bfNm f ∈ c.bs) (hg : c.glb (bfNm f) = true) (he : plainXs (e :: es) = true) (hl : SEs X (e :: es) pl) :
    SE X (.Call (.Name (bfNm f) np) (e :: es) [] pos) (.plain fun ρ h => (pl.l ρ h).bind fun xs h1 => R.opt (opBf f h1 xs) h1) := by
  cases f with
  | len => exact se_bfB bf_len rfl (by decide) o hm hg he hl
  | int => exact se_bfT bf_int rfl (by decide) o hm hg he hl
  | abs => exact se_bfB bf_abs rfl (by decide) o hm hg he hl
  | tuple => exact se_bfT bf_tuple rfl (by decide) o hm hg he hl
  | max2 => exact se_bfB (bf_max (o.calm hc0)) rfl (by decide) o hm hg he hl
  | min2 => exact se_bfB (bf_min (o.calm hc0)) rfl (by decide) o hm hg he hl
  | sum => exact se_bfB (bf_sum (o.calm hc0)) rfl (by decide) o hm hg he hl
  | all => exact se_bfB (bf_all (o.calm hc0)) rfl (by decide) o hm hg he hl
  | any => exact se_bfB (bf_any (o.calm hc0)) rfl (by decide) o hm hg he hl
  | repr => exact se_bfB (bf_repr o.units o.guards) rfl (by decide) o hm hg he hl
  | sorted => exact se_bfB (bf_sorted (o.calm hc0)) rfl (by decide) o hm hg he hl
  | _ => cases hf
/-- list(x): a new list -/
theorem se_listF (o : Ok c F G X) (hm : ("list" : Str) ∈ c.bs) (hg : c.glb "list" = true) (he : plainXs (e :: es) = true) (hl : SEs X (e :: es) pl) :
    PE X (.Call (.Name "list" np) (e :: es) [] pos) (tF X.K fun ρ h => (pl.l ρ h).bind fun xs h1 => R.opt (opBf .list h1 xs) h1) := by
  simp only [plainXs, Bool.and_eq_true] at he
  refine (pe_callTy bf_list (glb_ok o hg).1 (o.blt _ hm) rfl hl.l (by decide) (glb_ok o hg).2 (plain_star he.1 _ _) (plainXs_any _ _ he.2)).imp fun σ H Q ⟨ρ, h, J, re, rh, q⟩ => ?_
  refine ⟨ρ, h, J, re, rh, ?_⟩
  dsimp only at q
  cases ev : pl.l ρ h with
  | bad => rw [ev] at q; exact False.elim q
  | err _ _ => rw [ev] at q; exact False.elim q
  | ok ds h1 =>
    rw [ev, R.bind_ok] at q
    intro J1 H1 vs e1 rh1 rs
    have hb : opBf .list h1 ds = bfList h1 ds := rfl
    rw [hb] at q
    cases ed : bfList h1 ds with
    | none => rw [ed] at q; exact False.elim q
    | some d =>
      rw [ed] at q
      refine ⟨J1, h1, ds, d, rh1, rs, ed, fun p ys ws hd np hz rr => ?_⟩
      subst hd
      refine q (J1.hide p) _ p ws ⟨rfl, e1.pre, fun a o n q => by rw [upd_ne (ne_of_none (e1.keep a o n q) np)]; exact e1.keep a o n q⟩ ?_ (rh1.hide np) upd_same hz ((rr.sub (Sub.hide np)).ext (Ext.laid np)) ?_
      · show p :: J1.z = p :: J.z; rw [e1.z]
      · cases hp : H p with
        | none => rfl
        | some u =>
          exfalso
          by_cases n : p ∈ J.l
          · obtain ⟨m, hm, _⟩ := e1.pre
            obtain ⟨u', h2⟩ := rh1.inl (a := p) (by rw [hm]; exact List.mem_append_left _ n)
            rw [np] at h2; cases h2
          · have := e1.keep p u n hp; rw [np] at this; cases this
theorem se_list (o : Ok c F G X) (hm : ("list" : Str) ∈ c.bs) (hg : c.glb "list" = true) (he : plainXs (e :: es) = true) (hl : SEs X (e :: es) pl) :
    SE X (.Call (.Name "list" np) (e :: es) [] pos) (.plain fun ρ h => (pl.l ρ h).bind fun xs h1 => R.opt (opBf .list h1 xs) h1) := by
  refine SE.plain (tF_val (se_listF o hm hg he hl) fun ρ h d h' e => ?_) (fun _ => rfl)
  cases ev : pl.l ρ h with
  | bad => rw [ev] at e; cases e
  | err _ _ => rw [ev] at e; cases e
  | ok ds h1 =>
    rw [ev, R.bind_ok] at e
    have hb : opBf .list h1 ds = bfList h1 ds := rfl
    rw [hb] at e
    unfold bfList at e
    split at e
    · rename_i x
      cases es : x.seq h1 with
      | none => rw [es] at e; cases e
      | some ys => rw [es] at e; cases e; exact ⟨_, rfl⟩
    · cases e

/-! ### isinstance -/
def tyNm : Ty → Str
  | .int => "int" | .str => "str" | .tup => "tuple" | .lst => "list" | .bl => "bool" | .dct => "dict" | .non => "NoneType"
theorem tyNm_boot (t : Ty) (ht : t ≠ .non) : bootBuiltins (tyNm t) = some (.type t.nm) := by cases t <;> first | rfl | exact absurd rfl ht
theorem se_isi {t : Ty} {ty : Str} {tp : Pos} (ht : t ≠ .non) (hty : ty = tyNm t) (o : Ok c F G X) (hm : ("isinstance" : Str) ∈ c.bs) (hg : c.glb "isinstance" = true) (hm2 : ty ∈ c.bs) (hg2 : c.glb ty = true) (hp : plainX a = true) (ha : SE X a pa) :
    SE X (.Call (.Name "isinstance" np) [a, .Name ty tp] [] pos) (.plain fun ρ h => (pa.v ρ h).bind fun x h1 => if x.isF then .bad else .ok (.bl (opIsi t h1 x)) h1) := by
  subst hty
  refine SE.plain ((pe_callB (isi_ops (t := t)) (glb_ok o hg).1 (o.blt _ hm) rfl (pa_cons ha.v (pa_cons (pe_bltn (v := .ty t.nm) (glb_ok o hg2).1 (o.blt _ hm2) (tyNm_boot t ht) rfl (by cases t <;> decide) (glb_ok o hg2).2) pa_nil) (plain_star hp _ _)) (by decide) (glb_ok o hg).2 (plain_star hp _ _) rfl).imp fun σ H Q ⟨ρ, h, J, re, rh, q⟩ => ?_) (fun _ => rfl)
  refine (Post.step (R1 := rD X.K) (f := pa.v) re rh q).mono fun x H1 ⟨J1, h1, dx, e1, re1, rh1, rx, q1⟩ => ?_
  split at q1
  · exact False.elim q1
  · rename_i hf
    exact ⟨J1, h1, dx, x, rh1, by simpa using hf, rx, rfl, q1 J1 H1 _ Ext.refl rh1 (.bl _)⟩

/-! ### methods -/
def mtNm : Mt → Str
  | .append => "append" | .pop => "pop" | .popAt => "pop" | .index => "index" | .count => "count"
theorem isL_ty {K : PySem.W.Frag} {J : Jn} {H : Hp} {h : Hh} {d : D} {v : V} (rh : RH K J h H) (r : RD K J H d v) (e : d.isL h = true) : tyV K "list" v H := by
  cases r with
  | lst n m q z rr => exact .inl ⟨rfl, _, .inl (.inl q)⟩
  | fz n m q z rr => exact .inl ⟨rfl, _, .inl (.inr ⟨_, q⟩)⟩
  | kfz k z rr => exact .inl ⟨rfl, _, .inr k⟩
  | ref q =>
    obtain ⟨o, u, h1, h2, h3⟩ := rh.at q
    simp only [D.isL, h1] at e
    cases h3 with
    | lst z rr => exact .inl ⟨rfl, _, .inl (.inl h2)⟩
    | dct z rr => cases e
  | _ => cases e
theorem mth_do {r : V → List V → Hp → VK → Prop} {m : Mt} {ol : PL} {σ : L2.St} {H : Hp} {Q : VK} (hr : ∀ x xs H Q, rMt X.K m x xs H Q → r x xs H Q)
    (t : tG X.K (rD X.K) (fun ρ h => (pa.v ρ h).bind fun x h1 => if x.isL h1 then (ol.l ρ h1).bind fun xs h2 => mthOp m x xs h2 else .bad) σ H Q) : tBM X.K "list" r (tG X.K (rD X.K) pa.v) (tG X.K (rDs X.K) ol.l) σ H Q := by
  obtain ⟨ρ, h, J, re, rh, q⟩ := t
  refine (Post.step (R1 := rD X.K) (f := pa.v) re rh q).mono fun x H1 ⟨J1, h1, dx, e1, re1, rh1, rx, q1⟩ => ?_
  cases hx : dx.isL h1 with
  | false => rw [hx] at q1; exact False.elim q1
  | true =>
    rw [hx] at q1
    simp only [if_true] at q1
    refine ⟨isL_ty rh1 rx hx, ?_⟩
    refine (Post.step (R1 := rDs X.K) (f := ol.l) re1 rh1 q1).mono fun xs H2 ⟨J2, h2, ds, e2, re2, rh2, rs, q2⟩ => hr _ _ _ _ ?_
    cases ev : mthOp m dx ds h2 with
    | bad => rw [ev] at q2; exact False.elim q2
    | err _ _ => rw [ev] at q2; exact False.elim q2
    | ok d h3 => rw [ev] at q2; exact ⟨J2, h2, dx, ds, d, h3, rh2, rx.ext e2, rs, ev, q2⟩
def mtOn : Mt → Bool
  | .append => true | .pop => true | .popAt => true
  | _ => false
def mtIx : Mt → Bool
  | .index => true
  | _ => false
def baseX : Expr → Bool
  | .Call _ [] _ _ => false
  | _ => true
theorem base_of {a : Expr} {m : Str} {env : PySem.Env} {w : Sem Value} (h : baseX a = true) : attributeBase a m env w = w := by
  cases a with
  | Call f as ks p =>
    cases as with
    | nil => cases h
    | cons a as => cases f <;> rfl
  | _ => rfl
theorem few_of (cpos : Pos) (env : PySem.Env) {es : List Expr} (h : plainXs es = true) (hl : es.length < 30) : ((backTo cpos (starEach es env)).all (fun x => !x.1) && (backToKw cpos (keywordEach [] env)).all (fun x => x.1.isSome)
      && decide (es.length + ([] : List Keyword).length + (if ([] : List Keyword).isEmpty then 0 else 1) < 30)) = true := by
  have h1 : (backTo cpos (starEach es env)).all (fun x => !x.1) = true := by
    have := plainXs_any cpos env h
    rw [List.any_eq_false] at this
    rw [List.all_eq_true]
    intro x hx
    have := this x hx
    simpa using this
  rw [h1]
  simp only [Bool.true_and, Bool.and_eq_true, decide_eq_true_eq]
  exact ⟨rfl, by simpa using hl⟩
theorem se_mth {m : Mt} {es : List Expr} (hm : mtOn m = true) (hx : baseX a = true) (hline : (apos.endLine == cpos.line) = true) (hp : plainXs es = true) (hlen : es.length < 30) (h0 : es = [] → pl.l = fun _ h => .ok [] h) (ha : SE X a pa) (hl : SEs X es pl) :
    SE X (.Call (.Attribute a (mtNm m) apos) es [] cpos) (.plain fun ρ h => (pa.v ρ h).bind fun x h1 => if x.isL h1 then (pl.l ρ h1).bind fun xs h2 => mthOp m x xs h2 else .bad) := by
  have gen : ∀ {id : String} {r : V → List V → Hp → VK → Prop}, Slot "list" (mtNm m) id → typeOf (.builtin id) = pure (.type "method_descriptor") → MtR X id r → (∀ x xs H Q, rMt X.K m x xs H Q → r x xs H Q) →
      SE X (.Call (.Attribute a (mtNm m) apos) es [] cpos) (.plain fun ρ h => (pa.v ρ h).bind fun x h1 => if x.isL h1 then (pl.l ρ h1).bind fun xs h2 => mthOp m x xs h2 else .bad) := by
    intro id r slot hty hmt hr
    refine SE.plain ?_ (fun _ => rfl)
    cases es with
    | nil =>
      refine (pe_bm0 PySem.F.plainAttrs_list slot hty hmt ha.v (base_of hx) hline).imp fun σ H Q t => ?_
      refine (mth_do hr t).mono fun x H1 ⟨ty, ρ, h, J, re, rh, q⟩ => ⟨ty, ?_⟩
      rw [h0 rfl] at q
      exact q J H1 [] Ext.refl rh .nil
    | cons e es =>
      have hp' := hp
      simp only [plainXs, Bool.and_eq_true] at hp'
      exact (pe_bm PySem.F.plainAttrs_list slot hty hmt ha.v hl.l (base_of hx) (few_of _ _ hp hlen) hline (plain_star hp'.1 _ _) (plainXs_any _ _ hp'.2)).imp fun σ H Q t => mth_do hr t
  cases m with
  | append => exact gen PySem.F.slot_list_append rfl mt_appendD fun _ _ _ _ z => z
  | pop => exact gen PySem.F.slot_list_pop rfl mt_popD fun _ _ _ _ z => .inl z
  | popAt => exact gen PySem.F.slot_list_pop rfl mt_popD fun _ _ _ _ z => .inr z
  | _ => cases hm

/-! ### a written tuple whose object is known; t.index(n) -/
theorem se_ftup {es : List Expr} {pl : PL} {k : Nat} (hl : SEs X es pl) : SE X (.Tuple es k pos) (.plain fun ρ h => (pl.l ρ h).bind fun xs h1 => if sizeOk xs.length then .ok (.ftup xs) h1 else .bad) := by
  refine SE.plain ((pe_ftup hl.l).imp fun σ H Q ⟨ρ, h, J, re, rh, q⟩ => ?_) (fun _ => rfl)
  refine (Post.step (R1 := rDs X.K) (f := pl.l) re rh q).mono fun xs H1 ⟨J1, h1, ds, e1, re1, rh1, rs, q1⟩ => ?_
  split at q1
  · rename_i hz
    have hz' : xs.length ≤ sizeLine := by rw [← rs.length]; exact size_of hz
    exact ⟨hz', fun p o np hc hd => q1 _ _ _ (Ext.laid np) (rh1.laid np) (.ft (rh1.notin np) (rh1.notz np) upd_same hc hd hz' (rs.ext (Ext.laid np)))⟩
  · exact False.elim q1
theorem tint_rel {K : PySem.W.Frag} {J : Jn} {H : Hp} : ∀ {ds : List D} {vs : List V} {ns : List Int}, RDs K J H ds vs → D.ints ds = some ns → vs = ns.map V.int
  | [], _, _, .nil, e => by cases e; rfl
  | d :: ds, _, ns, .cons r t, e => by
    cases d with
    | int i =>
      simp only [D.ints, Option.map_eq_some_iff] at e
      obtain ⟨ms, e1, rfl⟩ := e
      cases r
      rw [tint_rel t e1]; rfl
    | _ => cases e
theorem stepAt {K : PySem.W.Frag} {J : Jn} {H : Hp} {h h1 : Hh} {ρ : PV.Env} {σ : L2.St} {f : PV.Env → Hh → R D} {g : D → Hh → R D} {Q : VK} {dx : D} (re : RE K J H ρ σ) (rh : RH K J h H) (ev : f ρ h = .ok dx h1) (p : Post K J H (rD K) ((f ρ h).bind g) Q) :
    tG K (rD K) f σ H (fun b H1 => ∃ J1, Ext J H J1 H1 ∧ RE K J1 H1 ρ σ ∧ RH K J1 h1 H1 ∧ rD K J1 H1 dx b ∧ Post K J1 H1 (rD K) (g dx h1) Q) := by
  refine ⟨ρ, h, J, re, rh, ?_⟩
  rw [ev] at p ⊢
  exact fun J1 H1 b e rh1 rl => ⟨J1, e, re.ext e, rh1, rl, Post.ext rh rh1 e p⟩
theorem idx_inv {ds xs : List D} {d : D} (e : idxD ds xs = some d) : ∃ z ns, xs = [.int z] ∧ D.ints ds = some ns ∧ z ∈ ns ∧ d = .int (ns.idxOf z : Nat) := by
  unfold idxD at e
  split at e
  · rename_i z
    simp only [Option.bind_eq_some_iff] at e
    obtain ⟨ns, h1, h2⟩ := e
    split at h2
    · rename_i hz; cases h2; exact ⟨z, ns, rfl, h1, hz, rfl⟩
    · cases h2
  · cases e
theorem ixs_st {K : PySem.W.Frag} {J2 : Jn} {H2 : Hp} {h2 : Hh} {d : D} {v : V} {ds : List D} (rh2 : RH K J2 h2 H2) (r : RD K J2 H2 d v) (hf : d.isF = false) (e : d.ixs h2 = some ds) : ∃ p vs, v = .ref p ∧ SqL K H2 p vs ∧ RDs K J2 H2 ds vs := by
  cases d with
  | lst xs =>
    cases e
    obtain ⟨p, vs, rfl, hq, z, rr⟩ := res_inv rh2 rfl r
    exact ⟨p, vs, rfl, hq, rr⟩
  | fz xs =>
    cases e
    obtain ⟨p, vs, rfl, hq, z, rr⟩ := res_inv rh2 rfl r
    exact ⟨p, vs, rfl, hq, rr⟩
  | ref i =>
    cases r with
    | ref q =>
      obtain ⟨o, u, h1, h2', h3⟩ := rh2.at q
      simp only [D.ixs, h1] at e
      cases h3 with
      | lst z rr => cases e; exact ⟨_, _, rfl, .inl (.inl h2'), rr⟩
      | dct z rr => cases e
  | ftup xs => cases hf
  | _ => cases e
theorem se_tidx {es : List Expr} {e0 : Expr} (hx : baseX a = true) (hline : (apos.endLine == cpos.line) = true) (hp : plainXs (e0 :: es) = true) (hlen : (e0 :: es).length < 30) (ha : SE X a pa) (hl : SEs X (e0 :: es) pl) :
    SE X (.Call (.Attribute a "index" apos) (e0 :: es) [] cpos) (mthI pa pl) := by
  have hp' := hp
  simp only [plainXs, Bool.and_eq_true] at hp'
  refine SE.plain ⟨fun pins s σ H Q I ⟨ρ, h, J, re, rh, q⟩ => ?_⟩ (fun _ => rfl)
  dsimp only at q
  have q0 := q
  cases ev : pa.v ρ h with
  | bad => rw [ev] at q; exact False.elim q
  | err _ _ => rw [ev] at q; exact False.elim q
  | ok dx h1 =>
    cases hi : (dx.ixs h1).isSome with
    | false => rw [ev] at q; simp only [R.bind_ok, hi] at q; exact False.elim q
    | true =>
      have st := stepAt re rh ev q0
      have rest : ∀ (S : PySem.W.Frag → Hp → Addr → List V → Prop) (J1 : Jn) (H1 : Hp) (b : V), RE X.K J1 H1 ρ σ → RH X.K J1 h1 H1 → (∀ J2 h2 H2 ds, Ext J1 H1 J2 H2 → RH X.K J2 h2 H2 → dx.ixs h2 = some ds → ∃ p vs, b = .ref p ∧ S X.K H2 p vs ∧ RDs X.K J2 H2 ds vs) →
          Post X.K J1 H1 (rD X.K) (if (dx.ixs h1).isSome then (pl.l ρ h1).bind fun xs h2 => R.opt (ixD dx h2 xs) h2 else .bad) Q → tG X.K (rDs X.K) pl.l σ H1 (fun xs H2 => rIdx S X.K b xs H2 Q) := by
        intro S J1 H1 b re1 rh1 hS q1
        simp only [hi, if_true] at q1
        refine (Post.step (R1 := rDs X.K) (f := pl.l) re1 rh1 q1).mono fun xs H2 ⟨J2, h2, es2, e2, re2, rh2, rs, q2⟩ => ?_
        obtain ⟨d, hd, q3⟩ := Post.optX q2
        unfold ixD at hd
        simp only [Option.bind_eq_some_iff] at hd
        obtain ⟨ds, hds, hd⟩ := hd
        obtain ⟨z, ns, rfl, hn, hz, rfl⟩ := idx_inv hd
        obtain ⟨p, vs, rfl, hs, rr⟩ := hS J2 h2 H2 ds e2 rh2 hds
        rw [tint_rel rr hn] at hs
        obtain ⟨w, rfl, r1⟩ := one_inv rs
        cases r1
        exact ⟨p, ns, z, rfl, rfl, hs, hz, q3 _ _ _ Ext.refl rh2 (.int _)⟩
      cases hf : dx.isF with
      | true =>
        cases dx with
        | ftup xs =>
          refine (pe_fm PySem.F.slot_tuple_index rfl mt_tupIdx ha.v hl.l (base_of hx) (few_of _ _ hp hlen) hline (plain_star hp'.1 _ _) (plainXs_any _ _ hp'.2)).run pins s σ H Q I ?_
          obtain ⟨ρ', h', J', re', rh', p'⟩ := st
          refine ⟨ρ', h', J', re', rh', Post.mono p' fun b H1 ⟨J1, e1, re1, rh1, rx, q1⟩ => ?_⟩
          cases rx with
          | ft n m q c d z rr => exact ⟨⟨_, _, _, rfl, q, c, d⟩, rest SqT J1 H1 _ re1 rh1 (fun J2 h2 H2 ds e2 _ ed => ⟨_, _, rfl, .inl (.inr ⟨_, e2.keep _ _ n q⟩), by cases ed; exact rr.ext e2⟩) q1⟩
        | exc k => exact absurd hi (by simp [D.ixs])
        | exf k f d => exact absurd hi (by simp [D.ixs])
        | _ => cases hf
      | false =>
        refine (pe_bm PySem.F.plainAttrs_list PySem.F.slot_list_index rfl mt_lstIdx ha.v hl.l (base_of hx) (few_of _ _ hp hlen) hline (plain_star hp'.1 _ _) (plainXs_any _ _ hp'.2)).run pins s σ H Q I ?_
        obtain ⟨ρ', h', J', re', rh', p'⟩ := st
        refine ⟨ρ', h', J', re', rh', Post.mono p' fun b H1 ⟨J1, e1, re1, rh1, rx, q1⟩ => ?_⟩
        obtain ⟨ds, eds⟩ := Option.isSome_iff_exists.mp hi
        obtain ⟨p, vs, rfl, hq, rr⟩ := ixs_st rh1 rx hf eds
        exact ⟨.inl ⟨rfl, _, hq⟩, rest SqL J1 H1 _ re1 rh1 (fun J2 h2 H2 ds e2 rh2 ed => ixs_st rh2 (rx.ext e2) hf ed) q1⟩

/-! ### tuple(enumerate(a tuple)) -/
theorem se_tenum {ep : Pos} {cp : Pos} (o : Ok c F G X) (hc0 : c.hot = false) (hm : ("tuple" : Str) ∈ c.bs) (hg : c.glb "tuple" = true) (hm2 : ("enumerate" : Str) ∈ c.bs) (hg2 : c.glb "enumerate" = true) (hp : plainX a = true) (ha : SE X a pa) :
    SE X (.Call (.Name "tuple" np) [.Call (.Name "enumerate" ep) [a] [] cp] [] pos) (.plain fun ρ h => (pa.v ρ h).bind fun x h1 => R.opt (tenumOp x) h1) := by
  refine SE.plain ⟨fun pins s σ H Q I ⟨ρ, h, J, re, rh, q⟩ => ?_⟩ (fun _ => rfl)
  refine wpAny_Call_Name_kw (ld_blt I (glb_ok o hg).1 (o.blt _ hm) rfl (PyProof.Rows.callWith_type1 ?_ rfl rfl) (by decide) (glb_ok o hg).2)
  show wpAny _ _ (spliced [(false, eval (.Call (.Name "enumerate" ep) [a] [] cp) X.env)]) _ _ s
  refine Calls.spliced_cons ?_
  refine wpAny_Call_Name_kw (ld_blt I (glb_ok o hg2).1 (o.blt _ hm2) rfl (PyProof.Rows.callWith_type1 ?_ (plain_star hp _ _) rfl) (by decide) (glb_ok o hg2).2)
  have step : tCons (tG X.K (rD X.K) pa.v) tNil σ H (fun xs H1 => ∃ y, xs = [y] ∧ ∃ J1 h1 dx, Ext J H J1 H1 ∧ RE X.K J1 H1 ρ σ ∧ RH X.K J1 h1 H1 ∧ RD X.K J1 H1 dx y ∧ Post X.K J1 H1 (rD X.K) (R.opt (tenumOp dx) h1) Q) :=
    (Post.step (R1 := rD X.K) (f := pa.v) re rh q).mono fun b H1 z => ⟨b, rfl, z⟩
  refine thn ((pa_cons ha.v pa_nil (plain_star hp _ _)).run cp pins s σ H _ I step) fun us s1 ⟨xs, H1, I1, r1, y, ex, J1, h1, dx, e1, re1, rh1, rx, q1⟩ => ?_
  subst ex
  obtain ⟨u, rfl, ru⟩ : ∃ u, us = [u] ∧ L2.RelV y u := by
    cases r1 with | cons p t => cases t; exact ⟨_, rfl, p⟩
  cases ht : tenumOp dx with
  | none => rw [ht] at q1; exact False.elim q1
  | some d =>
    rw [ht] at q1
    unfold tenumOp at ht
    split at ht
    · rename_i ds
      split at ht
      · cases ht
        obtain ⟨a0, vs0, ey, _⟩ := rx.tup_inv
        subst ey
        cases (show u = Value.ref a0 from ru)
        refine thn (tenum_run (o.calm hc0) I1 rh1 rx fun J' H' v e2 rh2 rv => q1 J' H' v e2 rh2 rv) fun ev s2 hv => Calls.spliced_nil hv
      · cases ht
    · cases ht
/-! ### sorted(set(a list of ints)) -/
theorem sset_some {h : Hh} {x d : D} (e : ssetOp h x = some d) : ∃ ds ns, x.res h = .lst ds ∧ D.ints ds = some ns ∧ ns.length < 64 ∧ d = .lst ((srtD ns).map .int) := by
  unfold ssetOp at e
  simp only [Option.bind_eq_some_iff] at e
  obtain ⟨ns, ⟨ds, e1, e2⟩, e3⟩ := e
  split at e3
  · rename_i hz; cases e3; exact ⟨ds, ns, lstOf_inv e1, e2, hz, rfl⟩
  · cases e3
theorem fresh_at {K : PySem.W.Frag} {J J1 : Jn} {H H1 : Hp} {h1 : Hh} {p : Addr} (e1 : Ext J H J1 H1) (rh1 : RH K J1 h1 H1) (np : H1 p = none) : H p = none := by
  cases hp : H p with
  | none => rfl
  | some u =>
    exfalso
    by_cases n : p ∈ J.l
    · obtain ⟨m, hm, _⟩ := e1.pre
      obtain ⟨u', h2⟩ := rh1.inl (a := p) (by rw [hm]; exact List.mem_append_left _ n)
      rw [np] at h2; cases h2
    · have := e1.keep p u n hp; rw [np] at this; cases this
theorem se_ssetF {ep : Pos} {cp : Pos} (o : Ok c F G X) (hc0 : c.hot = false) (hm : ("sorted" : Str) ∈ c.bs) (hg : c.glb "sorted" = true) (hm2 : ("set" : Str) ∈ c.bs) (hg2 : c.glb "set" = true) (hp : plainX a = true) (ha : SE X a pa) :
    PE X (.Call (.Name "sorted" np) [.Call (.Name "set" ep) [a] [] cp] [] pos) (tF X.K fun ρ h => (pa.v ρ h).bind fun x h1 => R.opt (ssetOp h1 x) h1) := by
  have inner := pe_callTy (p := ep) (pos := cp) (PVX.cr_setL (X := X) (o.calm hc0)) (glb_ok o hg2).1 (o.blt _ hm2) rfl (pa_cons ha.v pa_nil (plain_star hp _ _)) (by decide) (glb_ok o hg2).2 (plain_star hp _ _) rfl
  refine (pe_callB (p := np) (pos := pos) (cr_sortedSet (X := X) (o.calm hc0)) (glb_ok o hg).1 (o.blt _ hm) rfl (pa_cons inner pa_nil rfl) (by decide) (glb_ok o hg).2 rfl rfl).imp fun σ H Q ⟨ρ, h, J, re, rh, q⟩ => ?_
  refine ⟨ρ, h, J, re, rh, ?_⟩
  dsimp only at q
  cases ev : pa.v ρ h with
  | bad => rw [ev] at q; exact False.elim q
  | err _ _ => rw [ev] at q; exact False.elim q
  | ok dx h1 =>
    rw [ev, R.bind_ok] at q
    intro J1 H1 b e1 rh1 rx
    cases hs : ssetOp h1 dx with
    | none => rw [hs] at q; exact False.elim q
    | some d =>
      rw [hs] at q
      obtain ⟨ds, ns, r1, r2, h64, rfl⟩ := sset_some hs
      obtain ⟨p, ws, rfl, hq, z, rr⟩ := res_inv rh1 r1 rx
      obtain rfl := ints_rel rr r2
      refine ⟨p, ns, rfl, hq, h64, fun p2 k np2 hk => ⟨p2, _, k, rfl, upd_same, by omega, fun ms p3 pw mem len np3 => ?_⟩⟩
      have em : ms = srtD ns := srtD_eq pw fun z => by rw [mem z]; exact decide_eq_true_iff
      subst em
      have rh2 := rh1.laid (o := SetO X.w p2 (fun j => decide (j ∈ ns)) k) np2
      have e2 := e1.trans rh rh1 (Ext.laid (o := SetO X.w p2 (fun j => decide (j ∈ ns)) k) np2)
      refine q (J1.hide p3) _ p3 _ ⟨rfl, e2.pre, fun a o n q => by rw [upd_ne (ne_of_none (e2.keep a o n q) np3)]; exact e2.keep a o n q⟩ ?_ (rh2.hide np3) upd_same ?_ (((rds_ints (srtD ns)).sub (Sub.hide np3)).ext (Ext.laid np3)) (fresh_at e2 rh2 np3)
      · show p3 :: J1.z = p3 :: J.z; rw [e1.z]
      · rw [List.length_map]
        rw [sizeLine_eq]; omega
theorem sset_lst {ρ : Env} {h : Hh} {d : D} {h' : Hh} (e : ((pa.v ρ h).bind fun x h1 => R.opt (ssetOp h1 x) h1) = .ok d h') : ∃ ds, d = .lst ds := by
  cases ev : pa.v ρ h with
  | bad => rw [ev] at e; cases e
  | err _ _ => rw [ev] at e; cases e
  | ok x h1 =>
    rw [ev, R.bind_ok] at e
    cases hs : ssetOp h1 x with
    | none => rw [hs] at e; cases e
    | some d2 =>
      rw [hs] at e
      cases e
      obtain ⟨ds, ns, r1, r2, h64, rfl⟩ := sset_some hs
      exact ⟨_, rfl⟩
theorem se_sset {ep : Pos} {cp : Pos} (o : Ok c F G X) (hc0 : c.hot = false) (hm : ("sorted" : Str) ∈ c.bs) (hg : c.glb "sorted" = true) (hm2 : ("set" : Str) ∈ c.bs) (hg2 : c.glb "set" = true) (hp : plainX a = true) (ha : SE X a pa) :
    SE X (.Call (.Name "sorted" np) [.Call (.Name "set" ep) [a] [] cp] [] pos) (.plain fun ρ h => (pa.v ρ h).bind fun x h1 => R.opt (ssetOp h1 x) h1) :=
  SE.plain (tF_val (se_ssetF o hc0 hm hg hm2 hg2 hp ha) fun _ _ _ _ e => sset_lst e) (fun _ => rfl)
end
end
end PV
end

section
set_option maxRecDepth 100000
/-! PvV: enumerate of a tuple in a loop, dict comprehensions, tuple(range(n)). -/
namespace PV
open L2 PySem PySem.Spec PyProof.Rows
/-! ### enumerate(a tuple) -/
/-- how the enumerating object e and the walk w over the tuple t stand ahead of place i -/
structure EnS (t e w : Addr) (i : Nat) (h : Heap) : Prop where
  en : ∃ old, IsEnum h e w (i : Int) old
  wk : h.IsTupleIter w t i
  ne : e ≠ w
section
variable {t e w : Addr} {i : Nat} {h g : Heap} {items : Array Value}
theorem two_mem {c : Addr} (hc : c ∈ [e, w]) : c = e ∨ c = w := (List.mem_cons.mp hc).imp_right List.mem_singleton.mp
theorem EnS.objs (x : EnS t e w i h) {c : Addr} (hc : c ∈ [e, w]) : ∃ o, h.get? c = some o ∧ ∀ v, o.data ≠ .cell v := by
  rcases two_mem hc with rfl | rfl
  · obtain ⟨_, q⟩ := x.en
    exact ⟨_, q, nofun⟩
  · obtain ⟨o, q, _, d⟩ := x.wk
    exact ⟨o, q, by rw [d]; exact nofun⟩
theorem EnS.lt (x : EnS t e w i h) {c : Addr} (hc : c ∈ [e, w]) : c < h.objs.size :=
  let ⟨_, q, _⟩ := x.objs hc; Heap.lt_size q
theorem EnS.stay (x : EnS t e w i h) (k : ∀ c ∈ [e, w], ∀ o, h.get? c = some o → g.get? c = some o) : EnS t e w i g :=
  ⟨x.en.imp fun _ q => k e (List.mem_cons_self ..) _ q, x.wk.at fun o q => k w (List.mem_cons_of_mem _ (List.mem_singleton.mpr rfl)) o q, x.ne⟩
/-- the tuple is none of the two: it is of another class -/
theorem EnS.other (x : EnS t e w i h) (p : h.IsTuple t items) {c : Addr} (hc : c ∈ [e, w]) : t ≠ c := by
  obtain ⟨o, ho, cl, _⟩ := p
  rintro rfl
  rcases two_mem hc with rfl | rfl
  · obtain ⟨_, q⟩ := x.en
    have q := Option.some.inj ((show h.get? t = some _ from q).symm.trans ho)
    rw [← q] at cl
    exact absurd cl (by simp)
  · obtain ⟨o2, q, cl2, _⟩ := x.wk
    cases Option.some.inj (q.symm.trans ho)
    rw [cl2] at cl
    exact absurd cl (by simp)
theorem EnS.eMem : e ∈ [e, w] := List.mem_cons_self ..
theorem EnS.wMem : w ∈ [e, w] := List.mem_cons_of_mem _ (List.mem_singleton.mpr rfl)
end
/-- the items of the tuple at t, in new pairs with their places -/
def IteT (K : PySem.W.Frag) (t : Addr) : It where
  go i H := ∃ (vs : List V) (y : V), SqT K H t vs ∧ vs[i]? = some y
  yld i H v H' := ∃ p y, v = .ref p ∧ H p = none ∧ H' = upd H p (.tup [.int (i : Nat), y]) ∧ ∀ vs, SqT K H t vs → vs[i]? = some y
  stop i H := ∃ vs : List V, SqT K H t vs ∧ vs.length = i
section
variable {X : Cx} {pins : List (Addr × Obj)} {σ : L2.St} {H : Hp} {s : Shared} {E : Value → Shared → Prop} {t e w : Addr} {i : Nat}
/-- one more pair -/
theorem enT_item {elts : List Expr} {kk : Nat} {tp : Pos} (hc : X.calm = true) (I : L2.Inv X pins σ H s) (hf : ∀ c ∈ [e, w], FpOk X pins H c) (x : EnS t e w i s.heap) {vs : List V} {y : V} (hq : SqT X.K H t vs) (hy : vs[i]? = some y) :
    wpAny (model X.prog X.w) X.A (pyNext (.ref e)) (fun r s1 => ∃ u, r = some u ∧
      wpAny (model X.prog X.w) X.A (letOwnedTupleGo (.Tuple elts kk tp) (.ref e) u) (fun _ s2 => ∃ v H', L2.Inv X pins σ H' s2 ∧ L2.RelV v u ∧ (IteT X.K t).yld i H v H' ∧ EnS t e w (i + 1) s2.heap ∧ ∀ c ∈ [e, w], H' c = none) E s1) E s := by
  obtain ⟨us, ru, tp1, _⟩ := I.tuple hq
  obtain ⟨u, hu, ry⟩ := ru.get hy
  obtain ⟨old, en⟩ := x.en
  have size : i < us.toArray.size := by rw [List.size_toArray]; exact (List.getElem?_eq_some_iff.mp hu).1
  have nw := x.other tp1 EnS.wMem
  have fresh : ∀ c ∈ [e, w], c ≠ s.heap.objs.size := fun c hc => Nat.ne_of_lt (x.lt hc)
  refine wpAny_pyNext_enum_itemD (Draws.tuple (A := X.A.in1) (I.ok.hd hc) w t nw us.toArray) en ⟨x.wk, tp1⟩ size x.ne (fun hm => ?_) fun u0 g tk pu out next laid _ keep => ?_
  · rcases two_mem (e := w) (w := t) hm with z | z
    · exact x.ne z
    · exact x.other tp1 EnS.eMem z.symm
  have eu : u0 = u := by
    have pu : us.toArray[i]? = some u0 := pu
    rw [List.getElem?_toArray, hu] at pu
    exact (Option.some.inj pu).symm
  subst eu
  refine ⟨_, rfl, wpAny_letOwnedTupleGo_enum (s := { s with heap := g, toks := tk + 1 }) out fun g2 out2 same => ?_⟩
  have laid2 := (same.2 s.heap.objs.size (fresh e EnS.eMem).symm).trans laid
  have pair : ObjOk X.prog X.w (upd H s.heap.objs.size (.tup [.int (i : Nat), y])) g2 s.heap.objs.size (.tup [.int (i : Nat), y]) :=
    ⟨show 2 ≤ sizeLine by decide, _, .cons ⟨tk, rfl⟩ (.cons ry .nil), _, laid2, rfl, _, rfl⟩
  have kept : ∀ c o, c ∉ [e, w] → s.heap.get? c = some o → g2.get? c = some o := fun c o nc q => by
    have ne : c ≠ e := fun z => nc (z ▸ EnS.eMem)
    have nw : c ≠ w := fun z => nc (z ▸ EnS.wMem)
    exact (same.2 c ne).trans (keep c o ne nw q)
  have J := I.turnedNew (t' := tk + 1) kept hf (Nat.le_refl _) pair
  refine ⟨.ref s.heap.objs.size, _, J, rfl, ⟨_, y, rfl, I.hok.fresh (Nat.le_refl _), rfl, fun ws hw => by rw [I.tuple_inj hw hq]; exact hy⟩, ⟨⟨u0, ?_⟩, next.1.at fun o q => (same.2 w x.ne.symm).trans q, x.ne⟩, fun c hc => ?_⟩
  · have step : (i : Int) + 1 = ((i + 1 : Nat) : Int) := by omega
    exact step ▸ out2
  · rw [upd_ne (fresh c hc)]; exact (hf c hc).1
/-- none is left -/
theorem enT_done (hc : X.calm = true) (I : L2.Inv X pins σ H s) (hf : ∀ c ∈ [e, w], FpOk X pins H c) (x : EnS t e w i s.heap) {vs : List V} (hq : SqT X.K H t vs) (hi : vs.length = i) :
    wpAny (model X.prog X.w) X.A (pyNext (.ref e)) (fun r s1 => r = none ∧ L2.Inv X pins σ H s1) E s := by
  obtain ⟨us, ru, tp1, _⟩ := I.tuple hq
  obtain ⟨old, en⟩ := x.en
  have size : i = us.toArray.size := by rw [List.size_toArray, ← ru.length, hi]
  have wk := x.wk
  rw [size] at wk
  obtain ⟨f0, f1, _, f3, f4, f5⟩ := hf w EnS.wMem
  exact wpAny_pyNext_enum_endD (Draws.tuple (A := X.A.in1) (I.ok.hd hc) w t (x.other tp1 EnS.wMem) us.toArray) en ⟨wk, tp1⟩ fun g gone => ⟨rfl, I.turned (t' := s.toks) (fun c o nc q => gone c o nc q) f0 f1 f3 f4 f5⟩
end
theorem turn_enT {P : Program} {wd : World} {K : PySem.W.Frag} {elts : List Expr} {kk : Nat} {tp : Pos} (t e w : Addr) : Turn P wd K (.Tuple elts kk tp) (IteT K t) [e, w] e (EnS t e w) where
  mem := EnS.eMem
  obj _ _ x _ hc := x.objs hc
  keep _ _ _ x k := x.stay k
  item X hP hw hK hc i pins s σ H E I hf x hg := by
    obtain ⟨vs, y, hq, hy⟩ := hg
    subst hP; subst hw; subst hK
    exact enT_item hc I hf x hq hy
  done X hP hw hK hc i pins s σ H E I hf x hg := by
    obtain ⟨vs, hq, hi⟩ := hg
    subst hP; subst hw; subst hK
    exact enT_done hc I hf x hq hi
  self _ _ _ _ _ x q := x.en.elim fun _ en => wpAny_pyIter_enum en q
def iEnumT (K : PySem.W.Frag) (ta : TA) : TI := fun σ H R => ta σ H fun vs H1 => ∃ t ys, vs = [.ref t] ∧ SqT K H1 t ys ∧ R (IteT K t) H1
theorem pi_enumT {X : Cx} {a : Expr} {ta : TA} {p pos tp : Pos} {elts : List Expr} {kk : Nat} (hg : Gl X "enumerate") (hm : X.mg "enumerate" = none) (ha : PA X [a] ta) (hs : starEach [a] X.env = [(false, eval a X.env)] := by rfl) :
    PI X (.Tuple elts kk tp) (.Call (.Name "enumerate" p) [a] [] pos) (iEnumT X.K ta) where
  run pins s σ H R I q := by
    have arg := ha.run pos pins s σ H _ I q
    refine Call_ (ld_blt I hg hm boot_enumerate (PyProof.Rows.callWith_type1 (thn arg fun us s1 hu => ?_) hs rfl))
    obtain ⟨vs, H1, I1, rel, t, ys, ev, hq, r⟩ := hu
    subst ev
    obtain ⟨u, rfl, ru⟩ : ∃ u, us = [u] ∧ L2.RelV (.ref t) u := by
      cases rel with | cons p q => cases q; exact ⟨_, rfl, p⟩
    cases (show u = Value.ref t from ru)
    obtain ⟨_, _, tp1, _⟩ := I1.tuple hq
    refine PVQ.call_enumT tp1 fun g en wk size keep => wpAny_pyIter_enum en ?_
    have I2 : L2.Inv X pins σ H1 { s1 with heap := g } := I1.kept (t' := s1.toks) keep
    refine ⟨s1.heap.objs.size + 1, [s1.heap.objs.size + 1, s1.heap.objs.size], _, _, H1, rfl, I2, turn_enT t _ _, ⟨⟨.none, en⟩, wk, Nat.succ_ne_self _⟩, fun c hc => ?_, r⟩
    have big : s1.heap.objs.size ≤ c := (two_mem hc).elim (fun z => z ▸ Nat.le_succ _) fun z => z ▸ Nat.le_refl _
    exact I1.fpOk big (I1.hok.fresh big)
end PV
namespace PV
open L2 PySem PySem.Spec PyProof.Rows
section
variable {X : Cx} {e x a b tg : Expr} {p pa pb pc : P} {pos : Pos} {K : PySem.W.Frag} {J : Jn} {H : Hp} {h : Hh}
/-! ### enumerate as a source -/
theorem enumD_get : ∀ {xs : List D} {n i : Nat} {d : D}, (enumD n xs)[i]? = some d → ∃ x, xs[i]? = some x ∧ d = .tup [.int ((n + i : Nat) : Int), x]
  | [], _, _, _, e => by simp [enumD] at e
  | x :: xs, n, 0, d, e => by simp [enumD] at e; exact ⟨x, rfl, by rw [← e]; rfl⟩
  | x :: xs, n, i + 1, d, e => by
    have e : (enumD (n + 1) xs)[i]? = some d := by simpa [enumD] using e
    obtain ⟨y, h1, h2⟩ := enumD_get e
    refine ⟨y, by simpa using h1, ?_⟩
    rw [h2]
    have : n + 1 + i = n + (i + 1) := by omega
    rw [this]
theorem enumD_len : ∀ {xs : List D} {n : Nat}, (enumD n xs).length = xs.length
  | [], _ => rfl
  | x :: xs, n => by show (enumD (n + 1) xs).length + 1 = _; rw [enumD_len]; rfl
theorem ite_ok {a : Addr} {ds : List D} {vs : List V} (st : ∀ {J2 : Jn} {H2 : Hp}, Sub J H J2 H2 → SqL K H2 a vs) (r : RDs K J H ds vs) : ItOk K J H (Ite K a) ⟨enumD 0 ds, none⟩ := by
  refine ⟨fun {J2 h2 H2 i d} s rh _ hd => ?_, fun {J2 h2 H2} s rh _ => ⟨vs, st s, by show vs.length ≤ (enumD 0 ds).length; rw [enumD_len, r.length]; exact Nat.le_refl _⟩⟩
  obtain ⟨y, hy, rfl⟩ := enumD_get hd
  obtain ⟨v, hv, rv⟩ := r.get hy
  refine ⟨⟨vs, v, st s, hv⟩, fun x H3 ⟨T, x', e1, nT, e2, f⟩ => ?_⟩
  have := f vs (st s)
  rw [hv] at this; cases this
  subst e1 e2
  refine ⟨Ext.laid nT, rh.laid nT, ?_⟩
  rw [Nat.zero_add]
  exact RD.newTup rh nT (.cons (.int _) (.cons (rv.sub s) .nil)) two_ok
theorem iteT_ok {a : Addr} {ds : List D} {vs : List V} (st : ∀ {J2 : Jn} {H2 : Hp}, Sub J H J2 H2 → SqT K H2 a vs) (r : RDs K J H ds vs) : ItOk K J H (IteT K a) ⟨enumD 0 ds, none⟩ := by
  refine ⟨fun {J2 h2 H2 i d} s rh _ hd => ?_, fun {J2 h2 H2} s rh _ => ⟨vs, st s, by show vs.length = (enumD 0 ds).length; rw [enumD_len, r.length]⟩⟩
  obtain ⟨y, hy, rfl⟩ := enumD_get hd
  obtain ⟨v, hv, rv⟩ := r.get hy
  refine ⟨⟨vs, v, st s, hv⟩, fun x H3 ⟨T, x', e1, nT, e2, f⟩ => ?_⟩
  have := f vs (st s)
  rw [hv] at this; cases this
  subst e1 e2
  refine ⟨Ext.laid nT, rh.laid nT, ?_⟩
  rw [Nat.zero_add]
  exact RD.newTup rh nT (.cons (.int _) (.cons (rv.sub s) .nil)) two_ok
theorem pi_enumS {pp tp : Pos} {elts : List Expr} {kk : Nat} (hg : Gl X "enumerate") (hm : X.mg "enumerate" = none) (hp : plainX a = true) (ha : SE X a pa) :
    PI X (.Tuple elts kk tp) (.Call (.Name "enumerate" pp) [a] [] pos) (tI X.K fun ρ h => (pa.v ρ h).bind fun x h1 => R.opt (enumSrc x) h1) := by
  have hs : starEach [a] X.env = [(false, eval a X.env)] := plain_star hp [] _
  refine ⟨fun pins s σ H Rr I ⟨ρ, h, J, re, rh, q⟩ => ?_⟩
  dsimp only at q
  cases ev : pa.v ρ h with
  | bad => rw [ev] at q; exact False.elim q
  | err _ _ => rw [ev] at q; exact False.elim q
  | ok d h1 =>
    rw [ev, R.bind_ok] at q
    cases es : enumSrc d with
    | none => rw [es] at q; exact False.elim q
    | some src =>
      rw [es] at q
      have q : ∀ J' H' it, Ext J H J' H' → RH X.K J' h1 H' → ItOk X.K J' H' it src → Rr it H' := q
      have one : ∀ {P : V → Hp → Prop}, (∀ J' H' v, Ext J H J' H' → RH X.K J' h1 H' → RD X.K J' H' d v → P v H') → tCons (tG X.K (rD X.K) pa.v) tNil σ H (fun xs H1 => ∃ y, xs = [y] ∧ P y H1) := fun {P} f =>
        (⟨ρ, h, J, re, rh, by rw [ev]; exact fun J1 H1 b e rh1 rl => ⟨b, rfl, f J1 H1 b e rh1 rl⟩⟩ : tG X.K (rD X.K) pa.v σ H (fun b H1 => ∃ y, [b] = [y] ∧ P y H1))
      have lists : (∃ ds, (d = .lst ds ∨ d = .fz ds) ∧ src = ⟨enumD 0 ds, none⟩) → wpAny (model X.prog X.w) X.A (eval (.Call (.Name "enumerate" pp) [a] [] pos) X.env) (fun v s1 => wpAny (model X.prog X.w) X.A (pyIter v) (PIE X pins σ (.Tuple elts kk tp) Rr) X.xe s1) X.xe s := by
        rintro ⟨ds, hd, rfl⟩
        refine (pi_enum hg hm (pa_cons ha.v pa_nil hs) hs).run pins s σ H Rr I ?_
        have := one (P := fun y H1 => ∃ a xs, y = V.ref a ∧ SqL X.K H1 a xs ∧ Rr (Ite X.K a) H1) fun J' H' v e1 rh' rv => by
          obtain ⟨p, vs, rfl, hq, z, rr⟩ := lst_st hd rv
          exact ⟨p, vs, rfl, hq Sub.refl, q J' H' _ e1 rh' (ite_ok hq rr)⟩
        refine tG.mono this fun b H1 ⟨y, ey, a0, xs, e1, e2, e3⟩ => ?_
        cases ey
        exact ⟨a0, xs, by rw [e1], e2, e3⟩
      cases d with
      | lst ds => cases es; exact lists ⟨ds, .inl rfl, rfl⟩
      | fz ds => cases es; exact lists ⟨ds, .inr rfl, rfl⟩
      | tup ds =>
        cases es
        refine (pi_enumT hg hm (pa_cons ha.v pa_nil hs) hs).run pins s σ H Rr I ?_
        have := one (P := fun y H1 => ∃ a xs, y = V.ref a ∧ SqT X.K H1 a xs ∧ Rr (IteT X.K a) H1) fun J' H' v e1 rh' rv => by
          obtain ⟨p, vs, rfl, hq, z, rr⟩ := tup_st rv
          exact ⟨p, vs, rfl, hq Sub.refl, q J' H' _ e1 rh' (iteT_ok hq rr)⟩
        refine tG.mono this fun b H1 ⟨y, ey, a0, xs, e1, e2, e3⟩ => ?_
        cases ey
        exact ⟨a0, xs, by rw [e1], e2, e3⟩
      | _ => cases es

/-! ### dict comprehensions -/
theorem valP_put {kvs : List (Key × D)} {kws : List (Key × V)} {k : Key} {d : D} {v : V} (r : Paired (fun p q => p.1 = q.1 ∧ RD K J H p.2 q.2) kvs kws) (rv : RD K J H d v) :
    Paired (fun p q => p.1 = q.1 ∧ RD K J H p.2 q.2) (putD kvs k d) (putK kws k v) := by
  have ha : ∀ {kvs : List (Key × D)} {kws : List (Key × V)}, Paired (fun p q => p.1 = q.1 ∧ RD K J H p.2 q.2) kvs kws → (kvs.any fun kv => decide (kv.1 = k)) = kws.any fun kv => decide (kv.1 = k) := by
    intro kvs kws r
    induction r with
    | nil => rfl
    | cons x t ih => simp only [List.any_cons, ih, x.1]
  have hm : ∀ {kvs : List (Key × D)} {kws : List (Key × V)}, Paired (fun p q => p.1 = q.1 ∧ RD K J H p.2 q.2) kvs kws → Paired (fun p q => p.1 = q.1 ∧ RD K J H p.2 q.2) (kvs.map fun kv => if kv.1 = k then (kv.1, d) else kv) (kws.map fun kv => if kv.1 = k then (kv.1, v) else kv) := by
    intro kvs kws r
    induction r with
    | nil => exact .nil
    | @cons p q ps qs x t ih =>
      refine .cons ?_ ih
      dsimp only
      by_cases hk : p.1 = k
      · rw [if_pos hk, if_pos (x.1 ▸ hk)]; exact ⟨x.1, rv⟩
      · rw [if_neg hk, if_neg (x.1 ▸ hk)]; exact x
  have hap : ∀ {kvs : List (Key × D)} {kws : List (Key × V)}, Paired (fun p q => p.1 = q.1 ∧ RD K J H p.2 q.2) kvs kws → Paired (fun p q => p.1 = q.1 ∧ RD K J H p.2 q.2) (kvs ++ [(k, d)]) (kws ++ [(k, v)]) := by
    intro kvs kws r
    induction r with
    | nil => exact .cons ⟨rfl, rv⟩ .nil
    | cons x t ih => exact .cons x ih
  unfold putD putK
  rw [ha r]
  split
  · exact hm r
  · exact hap r
theorem putK_le {kws : List (Key × V)} {k : Key} {v : V} : (putK kws k v).length ≤ kws.length + 1 := by
  unfold putK
  split
  · rw [List.length_map]; omega
  · rw [List.length_append]; exact Nat.le_refl _
theorem dc_read {t : Tg} {f : Env → Hh → R Src} {pt pk pv : P} {σ : L2.St} {Q : VK} (hq : tG K (rD K) (fun ρ h => (f ρ h).bind fun s h1 => if sizeOk s.items.length then (dcLoop s.good (dcTurn t pt pk pv ρ) s.items [] h1).bind newDct else .bad) σ H Q) :
    tDc (tI K f) (gD K t t.slots) (tG K rB pt.t) (tG K (rD K) pk.v) (tG K (rD K) pv.v) t.slots σ H Q := by
  obtain ⟨ρ, h, J, re, rh, q⟩ := hq
  refine ⟨ρ, h, J, re, rh, ?_⟩
  dsimp only at q
  cases ev : f ρ h with
  | bad => rw [ev] at q; exact q
  | err _ _ => rw [ev] at q; exact q
  | ok src h1 =>
    rw [ev, R.bind_ok] at q
    cases hsi : sizeOk src.items.length with
    | false => rw [hsi] at q; exact False.elim q
    | true =>
    rw [hsi] at q
    simp only [if_true] at q
    intro J1 H1 it e1 rh1 itok D nD
    have nDH : H D = none := fresh_at e1 rh1 nD
    let W : Nat → Nat → Hp → Prop := fun i m H2 => m = src.items.length - i ∧ i ≤ src.items.length ∧ ∃ J2 h2 acc kws, J2.z = D :: J.z ∧ Ext J H ⟨J2.l, J.z⟩ H2 ∧ Sub J1 H1 J2 H2 ∧ RH K J2 h2 H2 ∧ H2 D = some (.dK kws) ∧ kws.length ≤ i ∧ kws.length ≤ sizeLine ∧ Paired (fun p q => p.1 = q.1 ∧ RD K J2 H2 p.2 q.2) acc kws ∧
      (match dcLoop src.good (dcTurn t pt pk pv ρ) (src.items.drop i) acc h2 with
        | .ok kvs h' => ∀ J' H' v, Ext J H J' H' → RH K J' (h' ++ [.dct kvs]) H' → RD K J' H' (.ref h'.length) v → Q v H'
        | _ => False)
    refine ⟨W, ⟨src.items.length, by simp, Nat.zero_le _, J1.hide D, h1, [], [], by rw [← e1.z], ?_, (Sub.hide nD).trans (Ext.laid nD).sub, rh1.hide nD, upd_same, Nat.zero_le _, Nat.zero_le _, .nil, ?_⟩, fun i m H2 hW => ?_⟩
    · exact ⟨rfl, e1.pre, fun a o n q => by rw [upd_ne (ne_of_none (e1.keep a o n q) nD)]; exact e1.keep a o n q⟩
    · rw [List.drop_zero]
      cases ed : dcLoop src.good (dcTurn t pt pk pv ρ) src.items [] h1 with
      | bad => rw [ed] at q; exact q
      | err _ _ => rw [ed] at q; exact q
      | ok kvs h' => rw [ed] at q; exact q
    · obtain ⟨rfl, hi', J2, h2, acc, kws, ez, e2, s2, rh2, hD, hv, hsz, rs, q⟩ := hW
      cases hd : src.items[i]? with
      | none =>
        have hlen : i = src.items.length := by have := List.getElem?_eq_none_iff.mp hd; omega
        subst hlen
        rw [List.drop_eq_nil_of_le (Nat.le_refl _)] at q
        unfold dcLoop at q
        split at q
        · rename_i kvs h' heq
          split at heq
          · rename_i hgood
            cases heq
            refine .inl ⟨itok.stop s2 rh2 hgood, ?_⟩
            obtain ⟨l2, z2⟩ := J2
            have ez : z2 = D :: J.z := ez
            subst ez
            have rh3 : RH K (Jn.own ⟨l2, J.z⟩ D) (h2 ++ [.dct acc]) H2 := rh2.own (J := ⟨l2, J.z⟩) (fun z => rh.notz nDH z) hD (.dct hsz rs)
            refine q _ H2 _ (Ext.own (J' := ⟨l2, J.z⟩) nDH e2) rh3 (.ref ?_)
            show (l2 ++ [D])[h2.length]? = some D
            have hl : l2.length = h2.length := rh2.len
            rw [← hl, List.getElem?_append_right (Nat.le_refl _)]; simp
          · cases heq
        · exact False.elim q
      | some d =>
        have hlt : i < src.items.length := (List.getElem?_eq_some_iff.mp hd).1
        rw [List.drop_eq_getElem_cons hlt] at q
        have hde : src.items[i] = d := by rw [List.getElem?_eq_getElem hlt] at hd; exact Option.some.inj hd
        rw [hde] at q
        unfold dcLoop at q
        cases hgood : src.good h2 with
        | false => rw [hgood] at q; exact False.elim q
        | true =>
          rw [hgood] at q
          simp only [if_true] at q
          obtain ⟨g1, g2⟩ := itok.go s2 rh2 hgood hd
          refine .inr ⟨g1, fun H' => ∃ m', m' < src.items.length - i ∧ W (i + 1) m' H', fun H' z => z, fun xv H3 y3 => ?_⟩
          obtain ⟨e3, rh3, rd3⟩ := g2 xv H3 y3
          have hD3 : H3 D = some (.dK kws) := e3.keep D _ (rh2.apart D (by rw [ez]; exact List.mem_cons_self)) hD
          cases ht2 : t.put d ρ with
          | none => simp only [dcTurn, ht2] at q
          | some ρ' =>
            simp only [dcTurn, ht2] at q
            have re3 : RE K J2 H3 ρ σ := (re.ext e1 |> Sub.re s2).ext e3
            have sub3 : Sub J1 H1 J2 H3 := s2.trans e3.sub
            have ext3 : Ext J H ⟨J2.l, J.z⟩ H3 := ⟨rfl, e2.pre, fun a o n q => e3.keep a o (e2.notin n q) (e2.keep a o n q)⟩
            refine ⟨_, ρ', h2, J2, d, re3.wipe _, rh3, rd3, by rw [put_wipe]; exact ht2, fun σ2 re4 hk hl => ⟨wipe_same hk hl, ?_⟩⟩
            have nx : ∀ (J5 : Jn) (h5 : Hh) (H5 : Hp), Ext J2 H3 J5 H5 → RH K J5 h5 H5 → (∀ u, Ext J H ⟨J5.l, J.z⟩ (upd H5 D u)) ∧ Sub J1 H1 J5 H5 := fun J5 h5 H5 e5 rh5 => by
              refine ⟨fun u => ⟨rfl, ?_, fun a o n q => ?_⟩, sub3.trans e5.sub⟩
              · obtain ⟨m1, hm1, f1⟩ := ext3.pre
                obtain ⟨m2, hm2, f2⟩ := e5.pre
                have hm1 : J2.l = J.l ++ m1 := hm1
                refine ⟨m1 ++ m2, by show J5.l = _; rw [hm2, hm1, List.append_assoc], fun a ha => ?_⟩
                rcases List.mem_append.mp ha with z | z
                · exact f1 a z
                · cases hp : H a with
                  | none => rfl
                  | some w =>
                    exfalso
                    by_cases n : a ∈ J.l
                    · obtain ⟨w', h2'⟩ := rh3.inl (a := a) (by rw [hm1]; exact List.mem_append_left _ n)
                      rw [f2 a z] at h2'; cases h2'
                    · have := ext3.keep a w n hp; rw [f2 a z] at this; cases this
              · have hne : a ≠ D := by rintro rfl; rw [nDH] at q; cases q
                rw [upd_ne hne]
                exact e5.keep a o (ext3.notin n q) (ext3.keep a o n q)
            refine ⟨ρ', h2, J2, re4, rh3, ?_⟩
            cases et : pt.t ρ' h2 with
            | bad => rw [et] at q; exact False.elim q
            | err _ _ => rw [et] at q; exact False.elim q
            | ok okb h3 =>
              rw [et, R.bind_ok] at q
              intro J4 H4 bb e4 rh4 hbb
              have hbb : okb = bb := hbb
              subst hbb
              have hD4 : H4 D = some (.dK kws) := e4.keep D _ (rh3.apart D (by rw [ez]; exact List.mem_cons_self)) hD3
              have pext : ∀ {J5 : Jn} {H5 : Hp}, Ext J2 H3 J5 H5 → Paired (fun p q => p.1 = q.1 ∧ RD K J5 H5 p.2 q.2) acc kws := fun {J5 H5} e5 => Paired.mapP rs fun p q x => ⟨x.1, (x.2.ext e3).ext e5⟩
              cases okb with
              | false =>
                simp only [Bool.false_eq_true, if_false] at q ⊢
                obtain ⟨n1, n2⟩ := nx J4 h3 H4 e4 rh4
                refine ⟨_, by omega, rfl, hlt, J4, h3, acc, kws, by rw [e4.z, ez], ?_, n2, rh4, hD4, by omega, hsz, pext e4, q⟩
                have := n1 (.dK kws)
                have hu : upd H4 D (.dK kws) = H4 := by funext a; unfold upd; split <;> simp_all
                rwa [hu] at this
              | true =>
                simp only [if_true] at q ⊢
                refine ⟨ρ', h3, J4, re4.ext e4, rh4, ?_⟩
                cases ek : pk.v ρ' h3 with
                | bad => rw [ek] at q; exact False.elim q
                | err _ _ => rw [ek] at q; exact False.elim q
                | ok y h4 =>
                  rw [ek] at q
                  simp only [R.bind_ok] at q
                  intro J5 H5 yv e5 rh5 ry
                  refine ⟨ρ', h4, J5, (re4.ext e4).ext e5, rh5, ?_⟩
                  cases ee : pv.v ρ' h4 with
                  | bad => rw [ee] at q; exact False.elim q
                  | err _ _ => rw [ee] at q; exact False.elim q
                  | ok z h5 =>
                    rw [ee] at q
                    simp only [R.bind_ok, dcEnd] at q
                    intro J6 H6 zv e6 rh6 rz
                    cases hk : y.key with
                    | none => simp only [hk] at q
                    | some k =>
                      simp only [hk] at q
                      have hz4 : D ∈ J4.z := by rw [e4.z, ez]; exact List.mem_cons_self
                      have hz5 : D ∈ J5.z := by rw [e5.z]; exact hz4
                      have hz6 : D ∈ J6.z := by rw [e6.z]; exact hz5
                      have hD5 : H5 D = some (.dK kws) := e5.keep D _ (rh4.apart D hz4) hD4
                      have hD6 : H6 D = some (.dK kws) := e6.keep D _ (rh5.apart D hz5) hD5
                      have e46 : Ext J2 H3 J6 H6 := (e4.trans rh3 rh4 e5).trans rh3 rh5 e6
                      obtain ⟨n1, n2⟩ := nx J6 h5 H6 e46 rh6
                      have hlen : kws.length < sizeLine := by have := size_of hsi; omega
                      refine ⟨kws, k, key_inv hk ry, hD6, hlen, _, by omega, rfl, hlt, J6, h5, putD acc k z, putK kws k zv, by rw [e6.z, e5.z, e4.z, ez], n1 _, n2.trans (Sub.writeZ hz6), rh6.writeZ hz6, upd_same, ?_, ?_, ?_, q⟩
                      · have := putK_le (kws := kws) (k := k) (v := zv); omega
                      · have := putK_le (kws := kws) (k := k) (v := zv); omega
                      · exact Paired.mapP (valP_put (pext e46) rz) fun p q x => ⟨x.1, x.2.sub (Sub.writeZ hz6)⟩
theorem se_dcl {kx vx iter : Expr} {ifs : List Expr} {scope : Scope} {own : List (Str × Nat)} {t : Tg} {f : Env → Hh → R Src} {pt pk pv : P} (hc : X.calm = true) (hN : X.N.Nodup) (hi : PI X tg iter (tI X.K f)) (ok : BlkOk X.N X.env.scope scope own) (hown : own.map (·.2) = t.slots)
    (hg : ∀ (s : Shared) (H : Hp) (C : Addr) (cl : List (Str × Addr)) (fp : List Addr), ST (X.blk s H scope (compEnvC scope cl C X.env) fp) tg t t.slots)
    (ht : ∀ (s : Shared) (H : Hp) (C : Addr) (cl : List (Str × Addr)) (fp : List Addr), PTs (X.blk s H scope (compEnvC scope cl C X.env) fp) ifs (tG X.K rB pt.t))
    (hk : ∀ (s : Shared) (H : Hp) (C : Addr) (cl : List (Str × Addr)) (fp : List Addr), PE (X.blk s H scope (compEnvC scope cl C X.env) fp) kx (tG X.K (rD X.K) pk.v))
    (he : ∀ (s : Shared) (H : Hp) (C : Addr) (cl : List (Str × Addr)) (fp : List Addr), PE (X.blk s H scope (compEnvC scope cl C X.env) fp) vx (tG X.K (rD X.K) pv.v)) (hs : ∀ x, foldedSetIterable iter X.env x = pure x) :
    SE X (.DictComp kx vx [⟨tg, iter, ifs, 0⟩] scope pos) (.plain fun ρ h => (f ρ h).bind fun s h1 => if sizeOk s.items.length then (dcLoop s.good (dcTurn t pt pk pv ρ) s.items [] h1).bind newDct else .bad) := by
  refine SE.plain ((pe_dc (g := gD X.K t t.slots) (tt := tG X.K rB pt.t) (tk := tG X.K (rD X.K) pk.v) (tv := tG X.K (rD X.K) pv.v) hc hN hi ok (fun s H C cl fp => (hg s H C cl fp).run) ht hk he hs).imp fun σ H Q q => ?_) (fun _ => rfl)
  rw [hown]
  exact dc_read q

/-! ### tuple(range(n)) -/
theorem rgV_eq {n : Int} : RDs K J H (rngD 0 n) (rgV 0 n) := by
  unfold rngD rgV
  generalize List.range (n - 0).toNat = l
  induction l with
  | nil => exact .nil
  | cons i l ih => exact .cons (.int _) ih
theorem se_trng {c : Cs} {F : Fns} {G : List D} {np ep cp : Pos} (o : Ok c F G X) (hc0 : c.hot = false) (hm : ("tuple" : Str) ∈ c.bs) (hg : c.glb "tuple" = true) (hm2 : ("range" : Str) ∈ c.bs) (hg2 : c.glb "range" = true) (hp : plainX a = true) (ha : SE X a pa) :
    SE X (.Call (.Name "tuple" np) [.Call (.Name "range" ep) [a] [] cp] [] pos) (.plain fun ρ h => (pa.v ρ h).bind fun x h1 => R.opt (trngOp x) h1) := by
  refine SE.plain ((pe_tupRg (o.calm hc0) (glb_ok o hg).1 (o.blt _ hm) (prg_1 (glb_ok o hg2).1 (o.blt _ hm2) ha.v (plain_star hp _ _)) rfl).imp fun σ H Q ⟨ρ, h, J, re, rh, q⟩ => ?_) (fun _ => rfl)
  refine (Post.step (R1 := rD X.K) (f := pa.v) re rh q).mono fun x H1 ⟨J1, h1, dx, e1, re1, rh1, rx, q1⟩ => ?_
  obtain ⟨d, hd, q2⟩ := Post.optX q1
  unfold trngOp at hd
  split at hd
  · rename_i n
    split at hd
    · rename_i hz
      cases hd
      refine ⟨n, rx.int_inv, RgOk.of_le (by omega) (by omega) (by omega) (by omega), fun p np => ?_⟩
      refine q2 _ _ _ (Ext.laid np) (rh1.laid np) (RD.newTup rh1 np rgV_eq ?_)
      rw [rgV_length, sizeLine_eq]; omega
    · cases hd
  · cases hd
end
end PV
end

section
set_option maxRecDepth 100000
/-! PvZ: isinstance(x, (tuple, list)); isinstance and the field of a caught exception. -/
namespace PV
open PySem PySem.Spec PyProof.Rows L2 PV
section
variable {X : Cx} {a : Expr} {pa : P} {pos np tp p1 p2 : Pos} {c : Cs} {F : Fns} {G : List D} {k : Nat}
def asIsi2 : Expr → Option (Str × Expr × Str × Str)
  | .Call (.Name f _) [y, .Tuple [.Name t1 _, .Name t2 _] _ _] [] _ => some (f, y, t1, t2)
  | _ => none
theorem asIsi2_eq {e y : Expr} {f t1 t2 : Str} (h : asIsi2 e = some (f, y, t1, t2)) : ∃ p q r k tp z, e = .Call (.Name f p) [y, .Tuple [.Name t1 q, .Name t2 r] k tp] [] z := by
  unfold asIsi2 at h
  split at h
  · cases h; exact ⟨_, _, _, _, _, _, rfl⟩
  · cases h
def asFld : Expr → Option (Expr × Str)
  | .Attribute e f _ => some (e, f)
  | _ => none
theorem asFld_eq {e y : Expr} {f : Str} (h : asFld e = some (y, f)) : ∃ p, e = .Attribute y f p := by
  unfold asFld at h
  split at h
  · cases h; exact ⟨_, rfl⟩
  · cases h
/-- what isinstance asks of an exception's class, by a look -/
def exCB (K : PySem.W.Frag) (C : Addr) : Bool := decide (PySem.W.findIn K (.ref C) "__class__" = some (some (.builtin "object.__class__"))) && (decide (PySem.W.specialIn K (.builtin "object.__class__") "__get__" = some (some (.builtin "getset_descriptor.__get__"))) &&
  (decide (PySem.W.takesIn K (.builtin "object.__class__") = some true) && (decide (PySem.W.mroIn K C (.type "object") = some true) && xfB K C)))
theorem exCB_ok {K : PySem.W.Frag} {C : Addr} (h : exCB K C = true) : ExcC K C := by
  (simp only [exCB, Bool.and_eq_true, decide_eq_true_eq] at h)
  obtain ⟨h1, h2, h3, h4, h5⟩ := h
  have x := xfB_ok h5
  exact ⟨x.ga, x.gg, x.exC, x.hdC, h1, h2, h3, h4⟩
theorem two_kit : ∀ n : String, n ∈ ["NoneType", "bool", "int", "str", "tuple", "list", "dict"] → kitB n "tuple" = some (decide (n = "tuple")) ∧ kitB n "list" = some (decide (n = "list")) := by
  intro n hn
  simp only [List.mem_cons, List.not_mem_nil, or_false] at hn
  rcases hn with rfl | rfl | rfl | rfl | rfl | rfl | rfl <;> decide +kernel
theorem two_ops : CallR X (.builtin "isinstance") (fun xs H Q => ∃ J h d v T, RH X.K J h H ∧ d.isF = false ∧ RD X.K J H d v ∧ xs = [v, .ref T] ∧ H T = some (.tup [.ty "tuple", .ty "list"]) ∧ Q (.bl (isi2Op h d)) H) := by
  intro pins s σ H xs us Q I r ⟨J, h, d, v, T, rh, hf, r1, ex, hT, q⟩
  have hn : d.tyn h ∈ ["NoneType", "bool", "int", "str", "tuple", "list", "dict"] := by
    cases d <;> simp only [D.tyn] <;> try decide
    split <;> decide
  obtain ⟨k1, k2⟩ := two_kit _ hn
  have e2 : (decide (d.tyn h = "tuple") || decide (d.tyn h = "list")) = isi2Op h d := by
    unfold isi2Op
    cases r1 with
    | ref q1 =>
      obtain ⟨o, w, h1, h2, h3⟩ := rh.at q1
      cases o <;> simp [opIsi, D.tyn, h1]
    | ft => cases hf
    | exc => cases hf
    | exf => cases hf
    | _ => simp [opIsi, D.tyn]
  have e : PySem.W.kitAny X.K (.type (d.tyn h)) [.type "tuple", .type "list"] = some (isi2Op h d) := by
    rw [← e2]
    refine kitAny_cons (kit_ty k1) (fun z => ?_) fun z => by rw [z]; rfl
    refine kitAny_cons (kit_ty k2) (fun z2 => ?_) fun z2 => by rw [z2, Bool.or_true]
    rw [z, z2]
    rfl
  exact call_isiT pins s σ H xs us Q I r ⟨v, T, _, _, _, _, ex, hT, .cons (.ty _) (.cons (.ty _) .nil), tyx_of rh hf r1, e, q⟩
theorem se_isi2 (o : Ok c F G X) (h1 : ("isinstance" : Str) ∈ c.bs ∧ c.glb "isinstance" = true) (h2 : ("tuple" : Str) ∈ c.bs ∧ c.glb "tuple" = true) (h3 : ("list" : Str) ∈ c.bs ∧ c.glb "list" = true) (hp : plainX a = true) (ha : SE X a pa) :
    SE X (.Call (.Name "isinstance" np) [a, .Tuple [.Name "tuple" p1, .Name "list" p2] k tp] [] pos) (.plain fun ρ h => (pa.v ρ h).bind fun x h1 => if x.isF then .bad else .ok (.bl (isi2Op h1 x)) h1) := by
  have ty : ∀ (t : Ty) (ht : t ≠ .non) (q : Pos), tyNm t ∈ c.bs ∧ c.glb (tyNm t) = true → PE X (.Name (tyNm t) q) (tC (.ty t.nm)) := fun t ht q g => pe_bltn (v := .ty t.nm) (glb_ok o g.2).1 (o.blt _ g.1) (tyNm_boot t ht) rfl (by cases t <;> decide) (glb_ok o g.2).2
  have two := pe_tup (x1 := k) (pos := tp) (pa_cons (ty .tup (fun z => nomatch z) p1 h2) (pa_cons (ty .lst (fun z => nomatch z) p2 h3) pa_nil))
  refine SE.plain ((pe_callB two_ops (glb_ok o h1.2).1 (o.blt _ h1.1) rfl (pa_cons ha.v (pa_cons two pa_nil) (plain_star hp _ _)) (by decide) (glb_ok o h1.2).2 (plain_star hp _ _) rfl).imp fun σ H Q ⟨ρ, h, J, re, rh, q⟩ => ?_) (fun _ => rfl)
  refine (Post.step (R1 := rD X.K) (f := pa.v) re rh q).mono fun x H1 ⟨J1, h1, dx, e1, re1, rh1, rx, q1⟩ => ?_
  split at q1
  · exact False.elim q1
  · rename_i hf
    refine ⟨by show 2 ≤ sizeLine; rw [sizeLine_eq]; omega, fun T nT => ?_⟩
    exact ⟨J1, h1, dx, x, T, rh1.laid nT, by simpa using hf, rx.ext (Ext.laid nT), rfl, upd_same, q1 J1 _ _ (Ext.laid nT) (rh1.laid nT) (.bl _)⟩
theorem se_isx {y : Str} {yes no : List Str} {q : Pos} (o : Ok c F G X) (h1 : ("isinstance" : Str) ∈ c.bs ∧ c.glb "isinstance" = true) (hg : c.glb y = true) (hx : c.xn y = true) (hp : plainX a = true) (hy : ∀ z ∈ yes, (z, y, true) ∈ c.xm.i) (hn : ∀ z ∈ no, (z, y, false) ∈ c.xm.i) (ha : SE X a pa) :
    SE X (.Call (.Name "isinstance" np) [a, .Name y q] [] pos) (.plain fun ρ h => (pa.v ρ h).bind fun x h1 => R.opt (isxOp yes no x) h1) := by
  obtain ⟨C, hm⟩ := xn_ok o hx
  have nm : PE X (.Name y q) (tC (.ref C)) := pe_glob (v := .ref C) (glb_ok o hg).1 hm rfl (glb_ok o hg).2
  refine SE.plain ((pe_callB call_isX (glb_ok o h1.2).1 (o.blt _ h1.1) rfl (pa_cons ha.v (pa_cons nm pa_nil) (plain_star hp _ _)) (by decide) (glb_ok o h1.2).2 (plain_star hp _ _) rfl).imp fun σ H Q ⟨ρ, h, J, re, rh, q⟩ => ?_) (fun _ => rfl)
  refine (Post.step (R1 := rD X.K) (f := pa.v) re rh q).mono fun x H1 ⟨J1, h1, dx, e1, re1, rh1, rx, q1⟩ => ?_
  obtain ⟨d, hd, q2⟩ := Post.opt rh1 q1
  cases dx with
  | exc z =>
    cases rx with
    | exc n m ea =>
      have go : ∀ b, (z, y, b) ∈ c.xm.i → d = .bl b → rIsX X.K [.ref _, .ref C] H1 Q := fun b mem ed => by
        subst ed
        obtain ⟨C2, m2, ec, ek⟩ := o.exm.i _ _ _ mem
        cases hm.symm.trans m2
        exact ⟨_, z, none, .ref C, .ref C, b, rfl, ea, (fun _ w => nomatch w), fun u ru => ru, ec, ek, q2 _ (.bl b)⟩
      simp only [isxOp] at hd
      split at hd
      · rename_i hz
        exact go true (hy _ hz) (by cases hd; rfl)
      · split at hd
        · rename_i hz
          exact go false (hn _ hz) (by cases hd; rfl)
        · cases hd
  | exf z g d2 =>
    cases rx with
    | exf n m ea n2 m2 eb rd =>
      have go : ∀ b, (z, y, b) ∈ c.xm.i → d = .bl b → rIsX X.K [.ref _, .ref C] H1 Q := fun b mem ed => by
        subst ed
        obtain ⟨C2, m2, ec, ek⟩ := o.exm.i _ _ _ mem
        cases hm.symm.trans m2
        exact ⟨_, z, some _, .ref C, .ref C, b, rfl, ea, (fun _ w => by cases w; exact ⟨_, _, eb⟩), fun u ru => ru, ec, ek, q2 _ (.bl b)⟩
      simp only [isxOp] at hd
      split at hd
      · rename_i hz
        exact go true (hy _ hz) (by cases hd; rfl)
      · split at hd
        · rename_i hz
          exact go false (hn _ hz) (by cases hd; rfl)
        · cases hd
  | _ => cases hd
theorem se_isv {yes : List Str} {q : Pos} (o : Ok c F G X) (h1 : ("isinstance" : Str) ∈ c.bs ∧ c.glb "isinstance" = true) (h2 : ("ValueError" : Str) ∈ c.bs ∧ c.glb "ValueError" = true) (hp : plainX a = true) (hy : ∀ z ∈ yes, z ∈ c.xm.v) (ha : SE X a pa) :
    SE X (.Call (.Name "isinstance" np) [a, .Name "ValueError" q] [] pos) (.plain fun ρ h => (pa.v ρ h).bind fun x h1 => R.opt (isxOp yes [] x) h1) := by
  have nm : PE X (.Name "ValueError" q) (tC (.ty "ValueError")) := pe_bltn (v := .ty "ValueError") (glb_ok o h2.2).1 (o.blt _ h2.1) (by rfl) rfl (by decide) (glb_ok o h2.2).2
  refine SE.plain ((pe_callB call_isX (glb_ok o h1.2).1 (o.blt _ h1.1) rfl (pa_cons ha.v (pa_cons nm pa_nil) (plain_star hp _ _)) (by decide) (glb_ok o h1.2).2 (plain_star hp _ _) rfl).imp fun σ H Q ⟨ρ, h, J, re, rh, q⟩ => ?_) (fun _ => rfl)
  refine (Post.step (R1 := rD X.K) (f := pa.v) re rh q).mono fun x H1 ⟨J1, h1, dx, e1, re1, rh1, rx, q1⟩ => ?_
  obtain ⟨d, hd, q2⟩ := Post.opt rh1 q1
  have yes_ : ∀ {z : Str}, (if z ∈ yes then some (D.bl true) else if z ∈ ([] : List Str) then some (.bl false) else none) = some d → z ∈ yes ∧ d = .bl true := fun {z} e => by
    split at e
    · rename_i m; cases e; exact ⟨m, rfl⟩
    · simp at e
  cases dx with
  | exc z =>
    cases rx with
    | exc n m ea =>
      obtain ⟨mem, rfl⟩ := yes_ hd
      obtain ⟨ec, ek⟩ := o.exm.v z (hy _ mem)
      exact ⟨_, z, none, .ty "ValueError", .type "ValueError", true, rfl, ea, (fun _ w => nomatch w), fun u ru => ru, ec, ek, q2 _ (.bl true)⟩
  | exf z g d2 =>
    cases rx with
    | exf n m ea n2 m2 eb rd =>
      obtain ⟨mem, rfl⟩ := yes_ hd
      obtain ⟨ec, ek⟩ := o.exm.v z (hy _ mem)
      exact ⟨_, z, some _, .ty "ValueError", .type "ValueError", true, rfl, ea, (fun _ w => by cases w; exact ⟨_, _, eb⟩), fun u ru => ru, ec, ek, q2 _ (.bl true)⟩
  | _ => cases hd
theorem se_fld {f : Str} {ks : List Str} (o : XF X.K X.mg c.xm) (hb : baseX a = true) (hk : ∀ z ∈ ks, (z, f) ∈ c.xm.f) (ha : SE X a pa) : SE X (.Attribute a f pos) (.plain fun ρ h => (pa.v ρ h).bind fun x h1 => R.opt (fldOp f ks x) h1) := by
  refine SE.plain ((pe_fld ha.v (base_of hb)).imp fun σ H Q ⟨ρ, h, J, re, rh, q⟩ => ?_) (fun _ => rfl)
  refine (Post.step (R1 := rD X.K) (f := pa.v) re rh q).mono fun x H1 ⟨J1, h1, dx, e1, re1, rh1, rx, q1⟩ => ?_
  obtain ⟨d, hd, q2⟩ := Post.opt rh1 q1
  cases dx with
  | exf z g d2 =>
    simp only [fldOp] at hd
    split at hd
    · rename_i hz
      cases hd
      obtain ⟨rfl, mem⟩ := hz
      cases rx with
      | exf n m ea n2 m2 eb rd =>
        obtain ⟨T, own⟩ := o.f _ _ (hk _ mem)
        exact ⟨z, _, _, _, T, own, rfl, ea, eb, q2 _ rd⟩
    · cases hd
  | _ => cases hd
/-- C(e).f: the very e -/
def asMkf : Expr → Option (Str × Expr × Str)
  | .Attribute (.Call (.Name x _) [e] [] _) f _ => some (x, e, f)
  | _ => none
theorem asMkf_eq {x e : Expr} {y f : Str} (h : asMkf x = some (y, e, f)) : ∃ p q r, x = .Attribute (.Call (.Name y p) [e] [] q) f r := by
  unfold asMkf at h
  split at h
  · cases h; exact ⟨_, _, _, rfl⟩
  · cases h
theorem se_mkf {y f : Str} {p q r : Pos} (o : Ok c F G X) (hc0 : c.hot = false) (hx : (y, f) ∈ c.xg) (hs : ("super" : Str) ∈ c.bs) (hg : c.glb y = true) (hp : plainX a = true) (ha : SE X a pa) : SE X (.Attribute (.Call (.Name y p) [a] [] q) f r) (.plain pa.v) := by
  obtain ⟨m, g, t, n⟩ := o.gate _ hx
  obtain ⟨k, hr, _⟩ := (o.call hc0).ok
  exact SE.plain (pe_gateF g t n (hr.mono (Nat.zero_le _)) (o.blt _ hs) (glb_ok o hg).1 m ha.v (plain_star hp _ _) (glb_ok o hg).2 rfl) (fun _ => rfl)
def asMkfK : Expr → Option (Str × Str × Expr × Str)
  | .Attribute (.Call (.Name x _) [] [⟨some g, e, _⟩] _) f _ => some (x, g, e, f)
  | _ => none
theorem asMkfK_eq {x e : Expr} {y g f : Str} (h : asMkfK x = some (y, g, e, f)) : ∃ p k q r, x = .Attribute (.Call (.Name y p) [] [⟨some g, e, k⟩] q) f r := by
  unfold asMkfK at h
  split at h
  · cases h; exact ⟨_, _, _, _, rfl⟩
  · cases h
theorem se_mkfK {y f : Str} {p kp q r : Pos} (o : Ok c F G X) (hc0 : c.hot = false) (hx : (y, f) ∈ c.xg) (hs : ("super" : Str) ∈ c.bs) (hg : c.glb y = true) (ha : SE X a pa) : SE X (.Attribute (.Call (.Name y p) [] [⟨some f, a, kp⟩] q) f r) (.plain pa.v) := by
  obtain ⟨m, g, t, n⟩ := o.gate _ hx
  obtain ⟨k, hr, _⟩ := (o.call hc0).ok
  exact SE.plain (pe_gateFK g t n (hr.mono (Nat.zero_le _)) (o.blt _ hs) (glb_ok o hg).1 m ha.v (glb_ok o hg).2 rfl) (fun _ => rfl)
theorem se_bad {x : Expr} : SE X x (.plain fun _ _ => .bad) :=
  ⟨⟨fun pins s σ H Q I ⟨ρ, h, J, re, rh, q⟩ => q.elim⟩, ⟨fun pins s σ H Q I ⟨ρ, h, J, re, rh, q⟩ => q.elim⟩⟩
end
end PV
end

section
set_option maxRecDepth 100000
namespace PV
open L2 PySem PySem.Spec PyProof.Rows

/-! ### a text read as E -/
def relabelS (scope sc : Scope) : Scope :=
  { scope with names := scope.names.map fun (n, k) =>
      if (k == .free && sc.kind == .function && sc.names.lookup n == some .cell) then (n, .cell) else (n, k) }
def Cs.blk (c : Cs) (scope : Scope) : Cs := { c with sc := relabelS scope c.sc, fn := fun x => scope.names.lookup x == some .cell }
def Cs.own (c : Cs) (t : Tg) : List (Str × Nat) := t.slots.map fun i => (c.N.getD i "", i)
def Cs.blt (c : Cs) (x : Str) : Bool := decide (x ∈ c.bs) && c.glb x
/-- a name that is set -/
def mV (c : Cs) (i : Nat) (x : Expr) : Bool := match asName x with
  | some y => c.loc i y
  | none => false
def mVs (c : Cs) : List Nat → List Expr → Bool
  | [], [] => true
  | i :: is, x :: xs => mV c i x && mVs c is xs
  | _, _ => false
def mT (c : Cs) : Tg → Expr → Bool
  | .v i, x => mV c i x
  | .tu is, x => match asTup x with
    | some xs => mVs c is xs
    | none => false
def asDcl : Expr → Option (Expr × Expr × Expr × Expr × List Expr × Scope)
  | .DictComp kx vx [⟨tg, iter, ifs, a⟩] scope _ => if a = 0 then some (kx, vx, tg, iter, ifs, scope) else none
  | _ => none
theorem asDcl_eq {e kx vx tg iter : Expr} {ifs : List Expr} {scope : Scope} (h : asDcl e = some (kx, vx, tg, iter, ifs, scope)) : ∃ p, e = .DictComp kx vx [⟨tg, iter, ifs, 0⟩] scope p := by
  unfold asDcl at h
  split at h
  · split at h
    · rename_i ha; cases h; subst ha; exact ⟨_, rfl⟩
    · cases h
  · cases h
mutual
def mE (c : Cs) : E → Expr → Bool
  | .var i, x => match asName x with | some y => c.vis i y | none => false
  | .con d, x => match asCon x with | some k => conM d k | none => false
  | .glo i, x => match asName x with | some y => decide (c.gn[i]? = some y) && c.glb y | none => false
  | .miss, _ => false
  | .tup es, x => match asTup x with | some xs => mEs c es xs | none => false
  | .ftup es, x => match asTup x with | some xs => mEs c es xs | none => false
  | .lst es, x => match asLst x with | some xs => mEs c es xs | none => false
  | .new e, x => mF c e x
  | .dic0, x => asDic0 x
  | .bin o a b, x => match asBin x with | some (y, p, z) => bopM o p && mE c a y && mE c b z | none => false
  | .neg a, x => match asUn x with | some (.USub, y) => mE c a y | _ => false
  | .cmp o a b, x => match asCmp1 x with | some (y, p, z) => copM o p && plainX z && mE c a y && mE c b z | none => false
  | .chain o o' a b d, x => match asCmp2 x with | some (y, p, p', z, w) => copM o p && copM o' p' && plainX w && mE c a y && mE c b z && mE c d w | none => false
  | .and a r, x => match asBool x with | some (.And, y, ys) => mE c a y && mEs c r ys && !ys.isEmpty | _ => false
  | .or a r, x => match asBool x with | some (.Or, y, ys) => mE c a y && mEs c r ys && !ys.isEmpty | _ => false
  | .not a, x => match asUn x with | some (.Not, y) => mE c a y | _ => false
  | .ite t a b, x => match asIf x with | some (w, y, z) => mE c t w && mE c a y && mE c b z | none => false
  | .idx a i, x => match asSub x with | some (y, z) => plainX z && mE c a y && mE c i z | none => false
  | .slc a lo hi, x => match asSub x with
    | some (y, z) => match asSlc z with
      | some (l, u) => mE c a y && (match l with | none => lo.isMiss | some l => !lo.isMiss && mE c lo l) && (match u with | none => hi.isMiss | some u => !hi.isMiss && mE c hi u)
      | none => false
    | none => false
  | .call f es, x => match asCall x with
    | some (y, xs) => match c.T[f]? with
      | some fn => (!c.hot || decide (f ∈ c.qt)) && decide (fn.name = y) && decide (fn.P.length = xs.length) && c.glb y && plainXs xs && mEs c es xs
      | none => false
    | none => false
  | .callK f es kes pm, x => match coolO c (asCallK x) with
    | some (y, xs, kws) => match c.T[f]? with
      | some fn => decide (fn.name = y) && decide ((xs.length, kwNms kws, pm) ∈ fn.kw) && kwAll kws && decide ((kwNms kws).length = kws.length) && c.glb y && plainXs xs && mEs c es xs && mEs c kes (kws.map (·.value))
      | none => false
    | none => false
  | .bf f es, x => match coolO c (asCall x) with
    | some (y, xs) => decide (y = bfNm f) && c.blt y && !xs.isEmpty && plainXs xs && mEs c es xs && (bfOn f || match f with | .list => true | _ => false)
    | none => false
  | .isi a t, x => match asIsi x with
    | some (f, y, ty) => decide (f = "isinstance") && (match t with | .non => false | _ => true) && decide (ty = tyNm t) && c.blt f && c.blt ty && plainX y && mE c a y
    | none => false
  | .mth m o es, x => match asMth x with
    | some (y, nm, xs) => decide (nm = mtNm m) && (mtOn m || (mtIx m && !xs.isEmpty)) && baseX y && plainXs xs && decide (xs.length < 30) && mE c o y && mEs c es xs
    | none => false
  | .lc t it d e, x => match coolO c (asLc x) with
    | some (elt, tg, iter, ifs, scope) => blkC c.N c.sc scope (c.own t) && mI c it tg iter && plainX iter && mT (c.blk scope) t tg && mE (c.blk scope) e elt && (match ifs with
      | [] => d.isMiss
      | [i] => mE (c.blk scope) d i
      | _ => false)
    | none => false
  | .tenum a, x => match coolO c (asTenum x) with
    | some (f, g, y) => decide (f = "tuple") && decide (g = "enumerate") && c.blt f && c.blt g && plainX y && mE c a y
    | none => false
  | .sset a, x => match coolO c (asTenum x) with
    | some (f, g, y) => decide (f = "sorted") && decide (g = "set") && c.blt f && c.blt g && plainX y && mE c a y
    | none => false
  | .dcl t it d k v, x => match coolO c (asDcl x) with
    | some (kx, vx, tg, iter, ifs, scope) => blkC c.N c.sc scope (c.own t) && mI c it tg iter && plainX iter && mT (c.blk scope) t tg && mE (c.blk scope) k kx && mE (c.blk scope) v vx && (match ifs with
      | [] => d.isMiss
      | [i] => mE (c.blk scope) d i
      | _ => false)
    | none => false
  | .trng a, x => match coolO c (asTenum x) with
    | some (f, g, y) => decide (f = "tuple") && decide (g = "range") && c.blt f && c.blt g && plainX y && mE c a y
    | none => false
  | .isi2 a, x => match asIsi2 x with
    | some (f, y, t1, t2) => decide (f = "isinstance") && decide (t1 = "tuple") && decide (t2 = "list") && c.blt f && c.blt t1 && c.blt t2 && plainX y && mE c a y
    | none => false
  | .isx a k yes no, x => match asIsi x with
    | some (f, y, ty) => decide (f = "isinstance") && decide (ty = k) && c.blt f && c.glb k && c.xn k && plainX y && mE c a y && (yes.all fun z => decide ((z, k, true) ∈ c.xm.i)) && (no.all fun z => decide ((z, k, false) ∈ c.xm.i))
    | none => false
  | .fld a f ks, x => match asFld x with
    | some (y, g) => decide (g = f) && baseX y && mE c a y && (ks.all fun z => decide ((z, f) ∈ c.xm.f))
    | none => false
  | .mkf y f k a, x => if k then (match coolO c (asMkfK x) with
      | some (y2, g2, z, g) => decide (y2 = y) && decide (g2 = f) && decide (g = f) && decide ((y, f) ∈ c.xg) && decide (("super" : Str) ∈ c.bs) && c.glb y && mE c a z
      | none => false)
    else match coolO c (asMkf x) with
      | some (y2, z, g) => decide (y2 = y) && decide (g = f) && decide ((y, f) ∈ c.xg) && decide (("super" : Str) ∈ c.bs) && c.glb y && plainX z && mE c a z
      | none => false
  | .isv a yes, x => match asIsi x with
    | some (f, y, ty) => decide (f = "isinstance") && decide (ty = "ValueError") && c.blt f && c.blt ty && plainX y && mE c a y && (yes.all fun z => decide (z ∈ c.xm.v))
    | none => false
  | .bad, _ => true
def mF (c : Cs) : E → Expr → Bool
  | .lst es, x => match asLst x with | some xs => mEs c es xs | none => false
  | .bf .list es, x => match coolO c (asCall x) with
    | some (y, xs) => decide (y = "list") && c.blt y && !xs.isEmpty && plainXs xs && mEs c es xs
    | none => false
  | .lc t it d e, x => match coolO c (asLc x) with
    | some (elt, tg, iter, ifs, scope) => blkC c.N c.sc scope (c.own t) && mI c it tg iter && plainX iter && mT (c.blk scope) t tg && mE (c.blk scope) e elt && (match ifs with
      | [] => d.isMiss
      | [i] => mE (c.blk scope) d i
      | _ => false)
    | none => false
  | .sset a, x => match coolO c (asTenum x) with
    | some (f, g, y) => decide (f = "sorted") && decide (g = "set") && c.blt f && c.blt g && plainX y && mE c a y
    | none => false
  | _, _ => false
def mEs (c : Cs) : Es → List Expr → Bool
  | .nil, [] => true
  | .cons e es, x :: xs => plainX x && mE c e x && mEs c es xs
  | _, _ => false
def mI (c : Cs) : I → Expr → Expr → Bool
  | .ev e, _, x => mE c e x
  | .rng n, _, x => match asCall x with
    | some (f, [y]) => decide (f = "range") && c.blt f && plainX y && mE c n y
    | _ => false
  | .rng2 a b, _, x => match asCall x with
    | some (f, [y, z]) => decide (f = "range") && c.blt f && plainX y && plainX z && mE c a y && mE c b z
    | _ => false
  | .zip a b, tg, x => match asCall x with
    | some (f, [y, z]) => decide (f = "zip") && c.blt f && plainX y && plainX z && mE c a y && mE c b z && (asTup tg).isSome
    | _ => false
  | .enum a, tg, x => match asCall x with
    | some (f, [y]) => decide (f = "enumerate") && c.blt f && plainX y && mE c a y && (asTup tg).isSome
    | _ => false
end
end PV
end

section
set_option maxRecDepth 100000
set_option maxHeartbeats 1900000
namespace PV
open L2 PySem PySem.Spec PyProof.Rows
section
variable {c : Cs} {F : Fns} {G : List D} {X : Cx}
theorem Ok.blk (o : Ok c F G X) {s : Shared} {H : Hp} {scope : Scope} {cl : List (Str × Addr)} {C : Addr} {fp : List Addr} : Ok (c.blk scope) F G (X.blk s H scope (compEnvC scope cl C X.env) fp) where
  hN := o.hN
  nd := o.nd
  sc := by
    show relabel scope X.env = relabelS scope c.sc
    unfold relabel relabelS PySem.Env.kindOf
    rw [o.sc]
  fn := rfl
  calm := o.calm
  call := fun h => ⟨(o.call h).ok⟩
  quiet := ⟨o.quiet.ok⟩
  blt := o.blt
  glo := o.glo
  exc := o.exc
  exm := o.exm
  gate := o.gate
theorem blt_ok {y : Str} (h : c.blt y = true) : y ∈ c.bs ∧ c.glb y = true := by
  simp only [Cs.blt, Bool.and_eq_true, decide_eq_true_eq] at h; exact h
theorem own_snd (t : Tg) : (c.own t).map (·.2) = t.slots := by simp [Cs.own, Function.comp_def]
theorem sv_ok {i : Nat} {x : Expr} (o : Ok c F G X) (h : mV c i x = true) : ∃ y p, x = .Name y p ∧ X.N[i]? = some y ∧ L2.Loc X.env.scope y ∧ (X.fn y = true ∨ X.env.scope.names.lookup y = some .local) := by
  unfold mV at h
  split at h
  · rename_i y hy
    obtain ⟨p, rfl⟩ := asName_eq hy
    obtain ⟨h1, h2, h3⟩ := loc_ok o h
    exact ⟨y, p, rfl, h1, h2, h3⟩
  · cases h
theorem svs_ok (o : Ok c F G X) : ∀ {is : List Nat} {xs : List Expr}, mVs c is xs = true → STs X xs is
  | [], [], _ => sts_nil
  | [], _ :: _, h => by cases h
  | _ :: _, [], h => by cases h
  | i :: is, x :: xs, h => by
    simp only [mVs, Bool.and_eq_true] at h
    obtain ⟨y, p, rfl, h1, h2, h3⟩ := sv_ok o h.1
    exact sts_cons o.nd h1 h2 h3 (svs_ok o h.2)
theorem st_ok (o : Ok c F G X) (hc0 : c.hot = false) {t : Tg} {x : Expr} (h : mT c t x = true) : ST X x t t.slots := by
  cases t with
  | v i =>
    obtain ⟨y, p, rfl, h1, h2, h3⟩ := sv_ok o (show mV c i x = true from h)
    exact st_v o.nd h1 h2 h3
  | tu is =>
    simp only [mT] at h
    split at h
    · rename_i xs hx
      obtain ⟨k, p, rfl⟩ := asTup_eq hx
      exact st_tu (o.calm hc0) (svs_ok o h)
    · cases h
def Es.len : Es → Nat
  | .nil => 0
  | .cons _ es => es.len + 1
theorem es_len : ∀ (es : Es) (ρ : Env) (h : Hh) (ds : List D) (h' : Hh), (evEs F G es).l ρ h = .ok ds h' → ds.length = es.len
  | .nil, ρ, h, ds, h', e => by cases e; rfl
  | .cons a es, ρ, h, ds, h', e => by
    have e : ((evE F G a).v ρ h).bind (fun x h1 => ((evEs F G es).l ρ h1).bind fun xs h2 => .ok (x :: xs) h2) = .ok ds h' := e
    cases e1 : (evE F G a).v ρ h with
    | ok x h1 =>
      rw [e1, R.bind_ok] at e
      cases e2 : (evEs F G es).l ρ h1 with
      | ok xs h2 =>
        rw [e2, R.bind_ok] at e
        cases e
        show xs.length + 1 = es.len + 1
        rw [es_len es _ _ _ _ e2]
      | bad => rw [e2] at e; cases e
      | err _ _ => rw [e2] at e; cases e
    | bad => rw [e1] at e; cases e
    | err _ _ => rw [e1] at e; cases e
theorem mEs_len : ∀ {es : Es} {xs : List Expr}, mEs c es xs = true → es.len = xs.length
  | .nil, [], _ => rfl
  | .nil, _ :: _, h => by cases h
  | .cons _ _, [], h => by cases h
  | .cons e es, x :: xs, h => by
    simp only [mEs, Bool.and_eq_true] at h
    show es.len + 1 = xs.length + 1
    rw [mEs_len h.2]
theorem mEs_nil {es : Es} {xs : List Expr} (h : mEs c es xs = true) : xs = [] → (evEs F G es).l = fun _ h => .ok [] h := by
  rintro rfl
  cases es with
  | nil => rfl
  | cons _ _ => cases h
/-- a list made anew -/
def SF (X : Cx) (x : Expr) (v : Env → Hh → R D) : Prop := PE X x (tF X.K v) ∧ ∀ whole, isTrue x X.env whole = (do let v ← whole; standAt x.pos; holding [v] (truthy v))
mutual
theorem sE : ∀ (t : E) {c : Cs} {X : Cx} (o : Ok c F G X) (x : Expr), mE c t x = true → SE X x (evE F G t)
  | .var i, c, X, o, x, h => by
    simp only [mE] at h
    split at h
    · rename_i y hy
      obtain ⟨p, rfl⟩ := asName_eq hy
      exact se_var o h
    · cases h
  | .con d, c, X, o, x, h => by
    simp only [mE] at h
    split at h
    · rename_i y hy
      obtain ⟨k, p, rfl⟩ := asCon_eq hy
      exact se_con h
    · cases h
  | .glo i, c, X, o, x, h => by
    simp only [mE] at h
    split at h
    · rename_i y hy
      obtain ⟨p, rfl⟩ := asName_eq hy
      (simp only [Bool.and_eq_true, decide_eq_true_eq] at h)
      exact se_glo o h.1 h.2
    · cases h
  | .miss, c, X, o, x, h => by cases h
  | .tup es, c, X, o, x, h => by
    simp only [mE] at h
    split at h
    · rename_i y hy
      obtain ⟨k, p, rfl⟩ := asTup_eq hy
      exact se_tup (sEs es o _ h)
    · cases h
  | .ftup es, c, X, o, x, h => by
    simp only [mE] at h
    split at h
    · rename_i y hy
      obtain ⟨k, p, rfl⟩ := asTup_eq hy
      exact se_ftup (sEs es o _ h)
    · cases h
  | .lst es, c, X, o, x, h => by
    simp only [mE] at h
    split at h
    · rename_i y hy
      obtain ⟨p, rfl⟩ := asLst_eq hy
      exact se_lst (sEs es o _ h)
    · cases h
  | .new e, c, X, o, x, h => se_new (sF e o x h).1 (sF e o x h).2
  | .dic0, c, X, o, x, h => by
    obtain ⟨p, rfl⟩ := asDic0_eq h
    exact se_dic0
  | .bin op a b, c, X, o, x, h => by
    simp only [mE] at h
    split at h
    · rename_i y p z hy
      obtain ⟨q, rfl⟩ := asBin_eq hy
      (simp only [Bool.and_eq_true] at h)
      exact se_bin' (bopM_ok h.1.1) (sE a o _ h.1.2) (sE b o _ h.2)
    · cases h
  | .neg a, c, X, o, x, h => by
    simp only [mE] at h
    split at h
    · rename_i y hy
      obtain ⟨q, rfl⟩ := asUn_eq hy
      exact se_neg (sE a o _ h)
    · cases h
  | .cmp op a b, c, X, o, x, h => by
    simp only [mE] at h
    split at h
    · rename_i y p z hy
      obtain ⟨q, rfl⟩ := asCmp1_eq hy
      (simp only [Bool.and_eq_true] at h)
      exact se_cmp' (copM_ok o.units h.1.1.1) h.1.1.2 (sE a o _ h.1.2) (sE b o _ h.2)
    · cases h
  | .chain op op' a b d, c, X, o, x, h => by
    simp only [mE] at h
    split at h
    · rename_i y p p' z w hy
      obtain ⟨q, rfl⟩ := asCmp2_eq hy
      (simp only [Bool.and_eq_true] at h)
      exact se_chain (copM_ok o.units h.1.1.1.1.1) (copM_ok o.units h.1.1.1.1.2) h.1.1.1.2 (sE a o _ h.1.1.2) (sE b o _ h.1.2) (sE d o _ h.2)
    · cases h
  | .and a r, c, X, o, x, h => by
    simp only [mE] at h
    split at h
    · rename_i y ys hy
      obtain ⟨q, rfl⟩ := asBool_eq hy
      (simp only [Bool.and_eq_true, Bool.not_eq_true'] at h)
      exact se_and (sE a o _ h.1.1) (sEs r o _ h.1.2) h.2
    · cases h
  | .or a r, c, X, o, x, h => by
    simp only [mE] at h
    split at h
    · rename_i y ys hy
      obtain ⟨q, rfl⟩ := asBool_eq hy
      (simp only [Bool.and_eq_true, Bool.not_eq_true'] at h)
      exact se_or (sE a o _ h.1.1) (sEs r o _ h.1.2) h.2
    · cases h
  | .not a, c, X, o, x, h => by
    simp only [mE] at h
    split at h
    · rename_i y hy
      obtain ⟨q, rfl⟩ := asUn_eq hy
      exact se_not (sE a o _ h)
    · cases h
  | .ite t a b, c, X, o, x, h => by
    simp only [mE] at h
    split at h
    · rename_i y p z hy
      obtain ⟨q, rfl⟩ := asIf_eq hy
      (simp only [Bool.and_eq_true] at h)
      exact se_ite (sE t o _ h.1.1) (sE a o _ h.1.2) (sE b o _ h.2)
    · cases h
  | .idx a i, c, X, o, x, h => by
    simp only [mE] at h
    split at h
    · rename_i y z hy
      obtain ⟨q, rfl⟩ := asSub_eq hy
      (simp only [Bool.and_eq_true] at h)
      exact se_idx o.units h.1.1 (sE a o _ h.1.2) (sE i o _ h.2)
    · cases h
  | .slc a lo hi, c, X, o, x, h => by
    simp only [mE] at h
    split at h
    · rename_i y z hy
      obtain ⟨q, rfl⟩ := asSub_eq hy
      split at h
      · rename_i l u hz
        obtain ⟨sp, rfl⟩ := asSlc_eq hz
        (simp only [Bool.and_eq_true] at h)
        obtain ⟨⟨h1, h2⟩, h3⟩ := h
        refine se_slc (sE a o _ h1) ?_ ?_
        · cases l with
          | none => have h2 : lo.isMiss = true := h2; rw [h2]; exact so_none
          | some l =>
            have h2 : (!lo.isMiss && mE c lo l) = true := h2
            simp only [Bool.and_eq_true, Bool.not_eq_true'] at h2
            rw [h2.1]; exact so_some (sE lo o _ h2.2)
        · cases u with
          | none => have h3 : hi.isMiss = true := h3; rw [h3]; exact so_none
          | some u =>
            have h3 : (!hi.isMiss && mE c hi u) = true := h3
            simp only [Bool.and_eq_true, Bool.not_eq_true'] at h3
            rw [h3.1]; exact so_some (sE hi o _ h3.2)
      · cases h
    · cases h
  | .call f es, c, X, o, x, h => by
    simp only [mE] at h
    split at h
    · rename_i y xs hy
      obtain ⟨p, q, rfl⟩ := asCall_eq hy
      split at h
      · rename_i fn hf
        simp only [Bool.and_eq_true, decide_eq_true_eq, Bool.or_eq_true, Bool.not_eq_true'] at h
        obtain ⟨⟨⟨⟨⟨hq, h1⟩, h2⟩, h3⟩, h4⟩, h5⟩ := h
        rcases hq with hc0 | hq
        rotate_left
        · exact se_callQ o hq hf h1 h3 h4 (mEs_nil h5) (fun ρ h0 ds h' e => by rw [es_len es _ _ _ _ e, mEs_len h5, h2]) (sEs es o _ h5)
        exact se_call o hc0 hf h1 h3 h4 (mEs_nil h5) (fun ρ h0 ds h' e => by rw [es_len es _ _ _ _ e, mEs_len h5, h2]) (sEs es o _ h5)
      · cases h
    · cases h
  | .callK f es kes pm, c, X, o, x, h => by
    simp only [mE] at h
    split at h
    · rename_i y xs kws hy
      obtain ⟨hc0, hy⟩ := coolO_eq hy
      obtain ⟨p, q, rfl⟩ := asCallK_eq hy
      split at h
      · rename_i fn hf
        (simp only [Bool.and_eq_true, decide_eq_true_eq] at h)
        (obtain ⟨⟨⟨⟨⟨⟨⟨h1, h2⟩, h3⟩, h4⟩, h5⟩, h6⟩, h7⟩, h8⟩ := h)
        exact se_callK o hc0 hf h1 h5 h6 h2 (mEs_nil h7) (fun ρ h0 ds h' e => by rw [es_len es _ _ _ _ e, mEs_len h7]) (fun ρ h0 ds h' e => by rw [es_len kes _ _ _ _ e, mEs_len h8, h4, List.length_map]) h3 (sEs es o _ h7) (sEs kes o _ h8)
      · cases h
    · cases h
  | .bf f es, c, X, o, x, h => by
    simp only [mE] at h
    split at h
    · rename_i y xs hy
      obtain ⟨hc0, hy⟩ := coolO_eq hy
      obtain ⟨p, q, rfl⟩ := asCall_eq hy
      simp only [Bool.and_eq_true, decide_eq_true_eq, Bool.not_eq_true'] at h
      obtain ⟨⟨⟨⟨⟨h1, h2⟩, h3⟩, h4⟩, h5⟩, h6⟩ := h
      subst h1
      obtain ⟨e, es', rfl⟩ := isEmpty_cons_false h3
      cases hb : bfOn f with
      | true => exact se_bf hb o hc0 (blt_ok h2).1 (blt_ok h2).2 h4 (sEs es o _ h5)
      | false =>
        rw [hb] at h6
        cases f with
        | list => exact se_list o (blt_ok h2).1 (blt_ok h2).2 h4 (sEs es o _ h5)
        | _ => cases h6
    · cases h
  | .isi a t, c, X, o, x, h => by
    simp only [mE] at h
    split at h
    · rename_i f y ty hy
      obtain ⟨p, q, r, rfl⟩ := asIsi_eq hy
      (simp only [Bool.and_eq_true, decide_eq_true_eq] at h)
      (obtain ⟨⟨⟨⟨⟨⟨h1, h2⟩, h3⟩, h4⟩, h5⟩, h6⟩, h7⟩ := h)
      subst h1
      exact se_isi (by rintro rfl; cases h2) h3 o (blt_ok h4).1 (blt_ok h4).2 (blt_ok h5).1 (blt_ok h5).2 h6 (sE a o _ h7)
    · cases h
  | .isi2 a, c, X, o, x, h => by
    simp only [mE] at h
    split at h
    · rename_i f y t1 t2 hy
      obtain ⟨p, q, r, k, tp, z, rfl⟩ := asIsi2_eq hy
      (simp only [Bool.and_eq_true, decide_eq_true_eq] at h)
      (obtain ⟨⟨⟨⟨⟨⟨⟨h1, h2⟩, h3⟩, h4⟩, h5⟩, h6⟩, h7⟩, h8⟩ := h)
      subst h1 h2 h3
      exact se_isi2 o (blt_ok h4) (blt_ok h5) (blt_ok h6) h7 (sE a o _ h8)
    · cases h
  | .isx a k yes no, c, X, o, x, h => by
    simp only [mE] at h
    split at h
    · rename_i f y ty hy
      obtain ⟨p, q, r, rfl⟩ := asIsi_eq hy
      (simp only [Bool.and_eq_true, decide_eq_true_eq, List.all_eq_true] at h)
      (obtain ⟨⟨⟨⟨⟨⟨⟨⟨h1, h2⟩, h3⟩, h4⟩, h5⟩, h6⟩, h7⟩, h8⟩, h9⟩ := h)
      subst h1 h2
      exact se_isx o (blt_ok h3) h4 h5 h6 h8 h9 (sE a o _ h7)
    · cases h
  | .fld a f ks, c, X, o, x, h => by
    simp only [mE] at h
    split at h
    · rename_i y g hy
      obtain ⟨p, rfl⟩ := asFld_eq hy
      (simp only [Bool.and_eq_true, decide_eq_true_eq, List.all_eq_true] at h)
      (obtain ⟨⟨⟨h1, h2⟩, h3⟩, h4⟩ := h)
      subst h1
      exact se_fld o.exm h2 h4 (sE a o _ h3)
    · cases h
  | .mkf k f b a, c, X, o, x, h => by
    simp only [mE] at h
    split at h
    · split at h
      · rename_i y2 g2 z g hy
        obtain ⟨hc0, hy⟩ := coolO_eq hy
        obtain ⟨p, kp, q, r, rfl⟩ := asMkfK_eq hy
        (simp only [Bool.and_eq_true, decide_eq_true_eq] at h)
        (obtain ⟨⟨⟨⟨⟨⟨h1, h2⟩, h3⟩, h4⟩, h5⟩, h6⟩, h8⟩ := h)
        subst h1 h2 h3
        exact se_mkfK o hc0 h4 h5 h6 (sE a o _ h8)
      · cases h
    · split at h
      · rename_i y2 z g hy
        obtain ⟨hc0, hy⟩ := coolO_eq hy
        obtain ⟨p, q, r, rfl⟩ := asMkf_eq hy
        (simp only [Bool.and_eq_true, decide_eq_true_eq] at h)
        (obtain ⟨⟨⟨⟨⟨⟨h1, h2⟩, h4⟩, h5⟩, h6⟩, h7⟩, h8⟩ := h)
        subst h1 h2
        exact se_mkf o hc0 h4 h5 h6 h7 (sE a o _ h8)
      · cases h
  | .isv a yes, c, X, o, x, h => by
    simp only [mE] at h
    split at h
    · rename_i f y ty hy
      obtain ⟨p, q, r, rfl⟩ := asIsi_eq hy
      (simp only [Bool.and_eq_true, decide_eq_true_eq, List.all_eq_true] at h)
      (obtain ⟨⟨⟨⟨⟨⟨h1, h2⟩, h3⟩, h4⟩, h5⟩, h6⟩, h7⟩ := h)
      subst h1 h2
      exact se_isv o (blt_ok h3) (blt_ok h4) h5 h7 (sE a o _ h6)
    · cases h
  | .bad, c, X, o, x, h => se_bad
  | .mth m a es, c, X, o, x, h => by
    simp only [mE] at h
    split at h
    · rename_i y nm xs hy
      obtain ⟨p, q, rfl, hl⟩ := asMth_eq hy
      (simp only [Bool.and_eq_true, decide_eq_true_eq] at h)
      (obtain ⟨⟨⟨⟨⟨⟨h1, h2⟩, h3⟩, h4⟩, h5⟩, h6⟩, h7⟩ := h)
      subst h1
      have s1 := sE a o _ h6
      have s2 := sEs es o _ h7
      rw [Bool.or_eq_true] at h2
      rcases h2 with h2 | h2
      · have z := se_mth h2 h3 hl h4 h5 (mEs_nil h7) s1 s2
        cases m <;> first | exact z | cases h2
      · rw [Bool.and_eq_true] at h2
        cases m <;> first | cases h2.1 | skip
        cases xs with
        | nil => cases h2.2
        | cons e0 xs => exact se_tidx h3 hl h4 h5 s1 s2
    · cases h
  | .lc t it d e, c, X, o, x, h => by
    simp only [mE] at h
    split at h
    · rename_i elt tg iter ifs scope hy
      obtain ⟨hc0, hy⟩ := coolO_eq hy
      obtain ⟨p, rfl⟩ := asLc_eq hy
      (simp only [Bool.and_eq_true] at h)
      obtain ⟨⟨⟨⟨⟨h1, h2⟩, h3⟩, h4⟩, h5⟩, h6⟩ := h
      refine SE.plain (tF_val (se_lcF (pt := evE F G d) (pe := evE F G e) (tt := fun _ _ _ => True) (o.calm hc0) o.nd (sI it o _ _ h2) (blkOk_by (by rw [o.hN, o.sc]; exact h1)) (own_snd t) (fun s H C cl fp => st_ok o.blk hc0 h4) (fun s H C cl fp => ?_) (fun s H C cl fp => (sE e o.blk _ h5).v) (plain_fold h3 _)) fun ρ h d h' e => lc_lst _ _ _ _ e) (fun _ => rfl)
      split at h6
      · cases d with
        | miss => exact ⟨fun pins s σ H Q I ⟨ρ, h, J, re, rh, q⟩ => pts_nil.run pins s σ H Q I (q J H true Ext.refl rh rfl)⟩
        | _ => cases h6
      · exact pts_one (sE d o.blk _ h6).t
      · cases h6
    · cases h
  | .tenum a, c, X, o, x, h => by
    simp only [mE] at h
    split at h
    · rename_i f g y hy
      obtain ⟨hc0, hy⟩ := coolO_eq hy
      obtain ⟨p, q, r, s, rfl⟩ := asTenum_eq hy
      (simp only [Bool.and_eq_true, decide_eq_true_eq] at h)
      obtain ⟨⟨⟨⟨⟨h1, h2⟩, h3⟩, h4⟩, h5⟩, h6⟩ := h
      subst h1 h2
      exact se_tenum o hc0 (blt_ok h3).1 (blt_ok h3).2 (blt_ok h4).1 (blt_ok h4).2 h5 (sE a o _ h6)
    · cases h
  | .sset a, c, X, o, x, h => by
    simp only [mE] at h
    split at h
    · rename_i f g y hy
      obtain ⟨hc0, hy⟩ := coolO_eq hy
      obtain ⟨p, q, r, s, rfl⟩ := asTenum_eq hy
      (simp only [Bool.and_eq_true, decide_eq_true_eq] at h)
      obtain ⟨⟨⟨⟨⟨h1, h2⟩, h3⟩, h4⟩, h5⟩, h6⟩ := h
      subst h1 h2
      exact se_sset o hc0 (blt_ok h3).1 (blt_ok h3).2 (blt_ok h4).1 (blt_ok h4).2 h5 (sE a o _ h6)
    · cases h
  | .dcl t it d k v, c, X, o, x, h => by
    simp only [mE] at h
    split at h
    · rename_i kx vx tg iter ifs scope hy
      obtain ⟨hc0, hy⟩ := coolO_eq hy
      obtain ⟨p, rfl⟩ := asDcl_eq hy
      (simp only [Bool.and_eq_true] at h)
      (obtain ⟨⟨⟨⟨⟨⟨h1, h2⟩, h3⟩, h4⟩, h5⟩, h6⟩, h7⟩ := h)
      refine se_dcl (pt := evE F G d) (pk := evE F G k) (pv := evE F G v) (o.calm hc0) o.nd (sI it o _ _ h2) (blkOk_by (by rw [o.hN, o.sc]; exact h1)) (own_snd t) (fun s H C cl fp => st_ok o.blk hc0 h4) (fun s H C cl fp => ?_) (fun s H C cl fp => (sE k o.blk _ h5).v) (fun s H C cl fp => (sE v o.blk _ h6).v) (plain_fold h3 _)
      split at h7
      · cases d with
        | miss => exact ⟨fun pins s σ H Q I ⟨ρ, h, J, re, rh, q⟩ => pts_nil.run pins s σ H Q I (q J H true Ext.refl rh rfl)⟩
        | _ => cases h7
      · exact pts_one (sE d o.blk _ h7).t
      · cases h7
    · cases h
  | .trng a, c, X, o, x, h => by
    simp only [mE] at h
    split at h
    · rename_i f g y hy
      obtain ⟨hc0, hy⟩ := coolO_eq hy
      obtain ⟨p, q, r, s, rfl⟩ := asTenum_eq hy
      (simp only [Bool.and_eq_true, decide_eq_true_eq] at h)
      obtain ⟨⟨⟨⟨⟨h1, h2⟩, h3⟩, h4⟩, h5⟩, h6⟩ := h
      subst h1 h2
      exact se_trng o hc0 (blt_ok h3).1 (blt_ok h3).2 (blt_ok h4).1 (blt_ok h4).2 h5 (sE a o _ h6)
    · cases h
theorem sF : ∀ (t : E) {c : Cs} {X : Cx} (o : Ok c F G X) (x : Expr), mF c t x = true → SF X x (evE F G t).v
  | .lst es, c, X, o, x, h => by
    simp only [mF] at h
    split at h
    · rename_i y hy
      obtain ⟨p, rfl⟩ := asLst_eq hy
      exact ⟨se_lstF (sEs es o _ h), fun _ => rfl⟩
    · cases h
  | .bf .list es, c, X, o, x, h => by
    simp only [mF] at h
    split at h
    · rename_i y xs hy
      obtain ⟨hc0, hy⟩ := coolO_eq hy
      obtain ⟨p, q, rfl⟩ := asCall_eq hy
      simp only [Bool.and_eq_true, decide_eq_true_eq, Bool.not_eq_true'] at h
      obtain ⟨⟨⟨⟨h1, h2⟩, h3⟩, h4⟩, h5⟩ := h
      subst h1
      obtain ⟨e, es', rfl⟩ := isEmpty_cons_false h3
      exact ⟨se_listF o (blt_ok h2).1 (blt_ok h2).2 h4 (sEs es o _ h5), fun _ => rfl⟩
    · cases h
  | .lc t it d e, c, X, o, x, h => by
    simp only [mF] at h
    split at h
    · rename_i elt tg iter ifs scope hy
      obtain ⟨hc0, hy⟩ := coolO_eq hy
      obtain ⟨p, rfl⟩ := asLc_eq hy
      (simp only [Bool.and_eq_true] at h)
      obtain ⟨⟨⟨⟨⟨h1, h2⟩, h3⟩, h4⟩, h5⟩, h6⟩ := h
      refine ⟨se_lcF (pt := evE F G d) (pe := evE F G e) (tt := fun _ _ _ => True) (o.calm hc0) o.nd (sI it o _ _ h2) (blkOk_by (by rw [o.hN, o.sc]; exact h1)) (own_snd t) (fun s H C cl fp => st_ok o.blk hc0 h4) (fun s H C cl fp => ?_) (fun s H C cl fp => (sE e o.blk _ h5).v) (plain_fold h3 _), fun _ => rfl⟩
      split at h6
      · cases d with
        | miss => exact ⟨fun pins s σ H Q I ⟨ρ, h, J, re, rh, q⟩ => pts_nil.run pins s σ H Q I (q J H true Ext.refl rh rfl)⟩
        | _ => cases h6
      · exact pts_one (sE d o.blk _ h6).t
      · cases h6
    · cases h
  | .var _, _, _, _, _, h => by cases h
  | .con _, _, _, _, _, h => by cases h
  | .glo _, _, _, _, _, h => by cases h
  | .miss, _, _, _, _, h => by cases h
  | .tup _, _, _, _, _, h => by cases h
  | .ftup _, _, _, _, _, h => by cases h
  | .isi2 _, _, _, _, _, h => by cases h
  | .isx _ _ _ _, _, _, _, _, h => by cases h
  | .fld _ _ _, _, _, _, _, h => by cases h
  | .mkf _ _ _ _, _, _, _, _, h => by cases h
  | .isv _ _, _, _, _, _, h => by cases h
  | .bad, _, _, _, _, h => by cases h
  | .new _, _, _, _, _, h => by cases h
  | .dic0, _, _, _, _, h => by cases h
  | .bin _ _ _, _, _, _, _, h => by cases h
  | .neg _, _, _, _, _, h => by cases h
  | .cmp _ _ _, _, _, _, _, h => by cases h
  | .chain _ _ _ _ _, _, _, _, _, h => by cases h
  | .and _ _, _, _, _, _, h => by cases h
  | .or _ _, _, _, _, _, h => by cases h
  | .not _, _, _, _, _, h => by cases h
  | .ite _ _ _, _, _, _, _, h => by cases h
  | .idx _ _, _, _, _, _, h => by cases h
  | .slc _ _ _, _, _, _, _, h => by cases h
  | .call _ _, _, _, _, _, h => by cases h
  | .callK _ _ _ _, _, _, _, _, h => by cases h
  | .isi _ _, _, _, _, _, h => by cases h
  | .tenum _, _, _, _, _, h => by cases h
  | .sset a, c, X, o, x, h => by
    simp only [mF] at h
    split at h
    · rename_i f g y hy
      obtain ⟨hc0, hy⟩ := coolO_eq hy
      obtain ⟨p, q, r, s, rfl⟩ := asTenum_eq hy
      (simp only [Bool.and_eq_true, decide_eq_true_eq] at h)
      obtain ⟨⟨⟨⟨⟨h1, h2⟩, h3⟩, h4⟩, h5⟩, h6⟩ := h
      subst h1 h2
      exact ⟨se_ssetF o hc0 (blt_ok h3).1 (blt_ok h3).2 (blt_ok h4).1 (blt_ok h4).2 h5 (sE a o _ h6), fun _ => rfl⟩
    · cases h
  | .dcl _ _ _ _ _, _, _, _, _, h => by cases h
  | .trng _, _, _, _, _, h => by cases h
  | .mth _ _ _, _, _, _, _, h => by cases h
  | .bf .len _, _, _, _, _, h => by cases h
  | .bf .int _, _, _, _, _, h => by cases h
  | .bf .abs _, _, _, _, _, h => by cases h
  | .bf .tuple _, _, _, _, _, h => by cases h
  | .bf .max2 _, _, _, _, _, h => by cases h
  | .bf .min2 _, _, _, _, _, h => by cases h
  | .bf .sum _, _, _, _, _, h => by cases h
  | .bf .all _, _, _, _, _, h => by cases h
  | .bf .any _, _, _, _, _, h => by cases h
  | .bf .sorted _, _, _, _, _, h => by cases h
  | .bf .repr _, _, _, _, _, h => by cases h
theorem sEs : ∀ (t : Es) {c : Cs} {X : Cx} (o : Ok c F G X) (xs : List Expr), mEs c t xs = true → SEs X xs (evEs F G t)
  | .nil, c, X, o, [], h => ses_nil
  | .nil, c, X, o, _ :: _, h => by cases h
  | .cons _ _, c, X, o, [], h => by cases h
  | .cons e es, c, X, o, x :: xs, h => by
    simp only [mEs, Bool.and_eq_true] at h
    exact ses_cons h.1.1 (sE e o _ h.1.2) (sEs es o _ h.2)
theorem sI : ∀ (t : I) {c : Cs} {X : Cx} (o : Ok c F G X) (tg x : Expr), mI c t tg x = true → PI X tg x (tI X.K (evI F G t))
  | .ev e, c, X, o, tg, x, h => pi_any (sE e o x h).v
  | .rng n, c, X, o, tg, x, h => by
    simp only [mI] at h
    split at h
    · rename_i f y hy
      obtain ⟨p, q, rfl⟩ := asCall_eq hy
      (simp only [Bool.and_eq_true, decide_eq_true_eq] at h)
      (obtain ⟨⟨⟨h1, h2⟩, h3⟩, h4⟩ := h)
      subst h1
      exact pi_rng (glb_ok o (blt_ok h2).2).1 (o.blt _ (blt_ok h2).1) h3 (sE n o _ h4)
    · cases h
  | .rng2 a b, c, X, o, tg, x, h => by
    simp only [mI] at h
    split at h
    · rename_i f y z hy
      obtain ⟨p, q, rfl⟩ := asCall_eq hy
      (simp only [Bool.and_eq_true, decide_eq_true_eq] at h)
      obtain ⟨⟨⟨⟨⟨h1, h2⟩, h3⟩, h4⟩, h5⟩, h6⟩ := h
      subst h1
      exact pi_rng2 (glb_ok o (blt_ok h2).2).1 (o.blt _ (blt_ok h2).1) h3 h4 (sE a o _ h5) (sE b o _ h6)
    · cases h
  | .zip a b, c, X, o, tg, x, h => by
    simp only [mI] at h
    split at h
    · rename_i f y z hy
      obtain ⟨p, q, rfl⟩ := asCall_eq hy
      (simp only [Bool.and_eq_true, decide_eq_true_eq] at h)
      (obtain ⟨⟨⟨⟨⟨⟨h1, h2⟩, h3⟩, h4⟩, h5⟩, h6⟩, h7⟩ := h)
      subst h1
      cases ht : asTup tg with
      | none => rw [ht] at h7; cases h7
      | some es =>
        obtain ⟨k, tp, rfl⟩ := asTup_eq ht
        exact pi_zipS (glb_ok o (blt_ok h2).2).1 (o.blt _ (blt_ok h2).1) h3 h4 (sE a o _ h5) (sE b o _ h6)
    · cases h
  | .enum a, c, X, o, tg, x, h => by
    simp only [mI] at h
    split at h
    · rename_i f y hy
      obtain ⟨p, q, rfl⟩ := asCall_eq hy
      (simp only [Bool.and_eq_true, decide_eq_true_eq] at h)
      (obtain ⟨⟨⟨⟨h1, h2⟩, h3⟩, h4⟩, h5⟩ := h)
      subst h1
      cases ht : asTup tg with
      | none => rw [ht] at h5; cases h5
      | some es =>
        obtain ⟨k, tp, rfl⟩ := asTup_eq ht
        exact pi_enumS (glb_ok o (blt_ok h2).2).1 (o.blt _ (blt_ok h2).1) h3 (sE a o _ h4)
    · cases h
end
end
end PV
end

section
set_option maxRecDepth 100000
namespace PV
open L2 PySem PySem.Spec PyProof.Rows

/-! ### what is wanted behind a statement -/
structure KW where
  K : PySem.W.Frag
  mg : Str → Option Value
  /-- what is wished of an exception -/
  W : WX
abbrev kw (X : Cx) (W : WX) : KW := ⟨X.K, X.mg, W⟩
def PostS (κ : KW) (J : Jn) (H : Hp) (r : RS) (D : Ends) : Prop := match r with
  | .nxt ρ h => ∀ J' H' σ, Ext J H J' H' → RE κ.K J' H' ρ σ → RH κ.K J' h H' → D.nx σ H'
  | .brk ρ h => ∀ J' H' σ, Ext J H J' H' → RE κ.K J' H' ρ σ → RH κ.K J' h H' → D.bk σ H'
  | .cnt ρ h => ∀ J' H' σ, Ext J H J' H' → RE κ.K J' H' ρ σ → RH κ.K J' h H' → D.ct σ H'
  | .ret d h => ∀ J' H' v, Ext J H J' H' → RH κ.K J' h H' → RD κ.K J' H' d v → D.rt v H'
  | .err ρ x h => ∀ J' H' σ cls d, Ext J H J' H' → RE κ.K J' H' ρ σ → RH κ.K J' h H' → RX κ.K κ.mg J' H' x cls d → κ.W cls d σ H'
  | .bad => False
def tS (κ : KW) (f : Env → Hh → RS) : TS := fun D σ H => ∃ ρ h J, RE κ.K J H ρ σ ∧ RH κ.K J h H ∧ PostS κ J H (f ρ h) D
section
variable {κ : KW} {J J' : Jn} {H H' : Hp} {h h' : Hh} {ρ : Env} {σ : L2.St} {α β : Type} {D : Ends}
theorem PostS.ext {r : RS} (rh : RH κ.K J h H) (rh' : RH κ.K J' h' H') (e : Ext J H J' H') (p : PostS κ J H r D) : PostS κ J' H' r D := by
  cases r with
  | nxt ρ h2 => exact fun J2 H2 s e2 re2 rh2 => p J2 H2 s (e.trans rh rh' e2) re2 rh2
  | brk ρ h2 => exact fun J2 H2 s e2 re2 rh2 => p J2 H2 s (e.trans rh rh' e2) re2 rh2
  | cnt ρ h2 => exact fun J2 H2 s e2 re2 rh2 => p J2 H2 s (e.trans rh rh' e2) re2 rh2
  | ret d h2 => exact fun J2 H2 s e2 rh2 rd => p J2 H2 s (e.trans rh rh' e2) rh2 rd
  | bad => exact p
  | err ρ x h2 => exact fun J2 H2 s c d e2 re2 rh2 rx => p J2 H2 s c d (e.trans rh rh' e2) re2 rh2 rx
theorem PostS.step {R1 : RelA α β} {f : Env → Hh → R α} {g : α → Hh → RS} (re : RE κ.K J H ρ σ) (rh : RH κ.K J h H) (p : PostS κ J H ((f ρ h).then_ g) D) :
    tG κ.K R1 f σ H (fun b H1 => ∃ J1 h1 a, Ext J H J1 H1 ∧ RE κ.K J1 H1 ρ σ ∧ RH κ.K J1 h1 H1 ∧ R1 J1 H1 a b ∧ PostS κ J1 H1 (g a h1) D) := by
  refine ⟨ρ, h, J, re, rh, ?_⟩
  cases q : f ρ h with
  | ok a h1 =>
    rw [q] at p
    exact fun J1 H1 b e rh1 rl => ⟨J1, h1, a, e, re.ext e, rh1, rl, PostS.ext rh rh1 e p⟩
  | bad => rw [q] at p; exact p
  | err _ _ => rw [q] at p; exact p
theorem PostS.seq {r : RS} {g : Env → Hh → RS} (rh : RH κ.K J h H) (p : PostS κ J H (r.then_ g) D) : PostS κ J H r { D with nx := tS κ g D } := by
  cases r with
  | nxt ρ h2 => exact fun J2 H2 s e2 re2 rh2 => ⟨ρ, h2, J2, re2, rh2, PostS.ext rh rh2 e2 p⟩
  | brk ρ h2 => exact p
  | cnt ρ h2 => exact p
  | ret d h2 => exact p
  | bad => exact p
  | err _ _ _ => exact p
end
section
variable {K : PySem.W.Frag} {J J' : Jn} {H H' : Hp} {h h' : Hh} {ρ : Env} {σ : L2.St} {α β : Type} {D : Ends}

/-! ### objects let go -/
abbrev Jn.cut (J : Jn) (n : Nat) : Jn := ⟨J.l.take n, J.z⟩
mutual
theorem RD.cut {n : Nat} : ∀ {d : PV.D} {v : V}, d.rlt n = true → RD K J H d v → RD K (J.cut n) H d v
  | _, _, _, .non => .non
  | _, _, _, .bl b => .bl b
  | _, _, _, .int i => .int i
  | _, _, _, .str x => .str x
  | _, _, h, .tup a m q z r => .tup (fun hm => a (List.mem_of_mem_take hm)) m q z (RDs.cut h r)
  | _, _, h, .ktup k z r => .ktup k z (RDs.cut h r)
  | _, _, h, .lst a m q z r => .lst (fun hm => a (List.mem_of_mem_take hm)) m q z (RDs.cut h r)
  | _, _, h, .ref q => .ref (by
      have h : decide (_ < n) = true := h
      have := of_decide_eq_true h
      show (J.l.take n)[_]? = _
      rw [List.getElem?_take_of_lt this]; exact q)
  | _, _, h, .fz a m q z r => .fz (fun hm => a (List.mem_of_mem_take hm)) m q z (RDs.cut h r)
  | _, _, h, .kfz k z r => .kfz k z (RDs.cut h r)
  | _, _, h, .ft a m q c d z r => .ft (fun hm => a (List.mem_of_mem_take hm)) m q c d z (RDs.cut h r)
  | _, _, _, .exc a m q => .exc (fun hm => a (List.mem_of_mem_take hm)) m q
  | _, _, h, .exf a m q a2 m2 q2 r => .exf (fun hm => a (List.mem_of_mem_take hm)) m q (fun hm => a2 (List.mem_of_mem_take hm)) m2 q2 (RD.cut h r)
theorem RDs.cut {n : Nat} : ∀ {ds : List PV.D} {vs : List V}, PV.D.rlts n ds = true → RDs K J H ds vs → RDs K (J.cut n) H ds vs
  | _, _, _, .nil => .nil
  | _, _, h, .cons r t => by
    simp only [PV.D.rlts, Bool.and_eq_true] at h
    exact .cons (RD.cut h.1 r) (RDs.cut h.2 t)
end
theorem paired_all {γ δ : Type} {Q Q' : γ → δ → Prop} {f : γ → Bool} (hf : ∀ p q, f p = true → Q p q → Q' p q) : ∀ {xs : List γ} {ys : List δ}, xs.all f = true → Paired Q xs ys → Paired Q' xs ys
  | _, _, _, .nil => .nil
  | _, _, h, .cons x t => by
    (simp only [List.all_cons, Bool.and_eq_true] at h)
    exact .cons (hf _ _ h.1 x) (paired_all hf h.2 t)
theorem RO.cut {n : Nat} {o : O} {u : HO} (h : o.rlt n = true) (r : RO K J H o u) : RO K (J.cut n) H o u := by
  cases r with
  | lst z r => exact .lst z (r.cut h)
  | @dct kvs kws z r =>
    have h : (kvs.all fun p : Key × PV.D => p.2.rlt n) = true := h
    exact .dct z (paired_all (fun p q hp x => ⟨x.1, x.2.cut hp⟩) h r)
theorem RH.cut {n : Nat} (hn : n ≤ h.length) (hr : Hh.rlt (h.take n) n = true) (rh : RH K J h H) : RH K (J.cut n) (h.take n) H where
  nd := (List.take_sublist n J.l).nodup rh.nd
  len := by show (J.l.take n).length = _; rw [List.length_take, List.length_take, rh.len]
  obj := fun i o e => by
    have hi : i < n := by
      have := (List.getElem?_eq_some_iff.mp e).1
      simp at this; omega
    have e' : h[i]? = some o := by rw [List.getElem?_take_of_lt hi] at e; exact e
    obtain ⟨a, u, h1, h2, h3⟩ := rh.obj i o e'
    refine ⟨a, u, by show (J.l.take n)[i]? = _; rw [List.getElem?_take_of_lt hi]; exact h1, h2, h3.cut ?_⟩
    exact List.all_eq_true.mp hr o (List.mem_of_getElem? e)
  apart := fun a ha hm => rh.apart a ha (List.mem_of_mem_take hm)
  zed := rh.zed
theorem kill_get : ∀ {ks : List Nat} {ρ : Env} {i : Nat} {d : PV.D}, (kill ks ρ)[i]? = some (some d) → ρ[i]? = some (some d)
  | [], _, _, _, e => e
  | k :: ks, ρ, i, d, e => by
    have := kill_get (ks := ks) e
    by_cases hj : k = i
    · subst hj
      by_cases hl : k < ρ.length
      · rw [List.getElem?_set_self hl] at this; cases this
      · rw [List.getElem?_eq_none (by simpa using hl)] at this; cases this
    · rwa [List.getElem?_set_ne hj] at this
theorem kill_len : ∀ {ks : List Nat} {ρ : Env}, (kill ks ρ).length = ρ.length
  | [], _ => rfl
  | k :: ks, ρ => by show (kill ks _).length = _; rw [kill_len, List.length_set]
theorem RE.cut {n : Nat} {ks : List Nat} (hr : Env.rlt n (kill ks ρ) = true) (re : RE K J H ρ σ) : RE K (J.cut n) H (kill ks ρ) σ := by
  refine ⟨by rw [kill_len]; exact re.len, fun i d q => ?_⟩
  obtain ⟨v, h1, h2⟩ := re.get i d (kill_get q)
  exact ⟨v, h1, h2.cut (List.all_eq_true.mp hr (some d) (List.mem_of_getElem? q))⟩
theorem Ext.cut (rh : RH K J h H) (e : Ext J H J' H') : Ext J H (J'.cut h.length) H' := by
  obtain ⟨m, hm, _⟩ := e.pre
  refine ⟨e.z, ⟨[], ?_, by simp⟩, e.keep⟩
  show J'.l.take h.length = J.l ++ []
  rw [hm, ← rh.len, List.take_left, List.append_nil]
theorem PostS.gc {κ : KW} {r : RS} {ks : List Nat} (rh : RH κ.K J h H) (p : PostS κ J H (gcS ks h.length r) D) : PostS κ J H r D := by
  have hle : ∀ {J' : Jn} {H' : Hp} {h' : Hh}, Ext J H J' H' → RH κ.K J' h' H' → h.length ≤ h'.length := fun e rh' => by
    obtain ⟨m, hm, _⟩ := e.pre
    rw [← rh'.len, ← rh.len, hm, List.length_append]; omega
  cases r with
  | nxt ρ h2 =>
    simp only [gcS] at p
    split at p
    · rename_i hc
      (simp only [Bool.and_eq_true] at hc)
      exact fun J2 H2 s e2 re2 rh2 => p _ H2 s (e2.cut rh) (re2.cut hc.1) (rh2.cut (hle e2 rh2) hc.2)
    · exact p.elim
  | brk ρ h2 =>
    simp only [gcS] at p
    split at p
    · rename_i hc
      (simp only [Bool.and_eq_true] at hc)
      exact fun J2 H2 s e2 re2 rh2 => p _ H2 s (e2.cut rh) (re2.cut hc.1) (rh2.cut (hle e2 rh2) hc.2)
    · exact p.elim
  | cnt ρ h2 =>
    simp only [gcS] at p
    split at p
    · rename_i hc
      (simp only [Bool.and_eq_true] at hc)
      exact fun J2 H2 s e2 re2 rh2 => p _ H2 s (e2.cut rh) (re2.cut hc.1) (rh2.cut (hle e2 rh2) hc.2)
    · exact p.elim
  | ret d h2 => exact p
  | bad => exact p
  | err _ _ _ => exact p
end

/-! ### the statements -/
section
variable {X : Cx} {W : WX} {e x a b : Expr} {st : Stmt} {p pa pb pc : P} {pos pos' : Pos}
theorem ss_nil : PSs X [] (tS (kw X W) fun ρ h => .nxt ρ h) := pss_nil.imp fun D σ H ⟨ρ, h, J, re, rh, q⟩ => q J H σ Ext.refl re rh
theorem ss_cons {sts : List Stmt} {f g : Env → Hh → RS} (h1 : PS X st (tS (kw X W) f)) (h2 : PSs X sts (tS (kw X W) g)) : PSs X (st :: sts) (tS (kw X W) fun ρ h => (f ρ h).then_ g) :=
  (pss_cons h1 h2).imp fun D σ H ⟨ρ, h, J, re, rh, q⟩ => ⟨ρ, h, J, re, rh, q.seq rh⟩
def notComp : Expr → Bool
  | .ListComp .. => false
  | .SetComp .. => false
  | .DictComp .. => false
  | _ => true
theorem swaps_not {t : Option Expr} {l : Nat} {env : PySem.Env} (h : notComp e = true) : swapsWith e t l env = pure false := by cases e <;> first | rfl | cases h
/-- the value of an assignment to a name: no comprehension, or the name is a cell -/
def mayAsg (c : Bool) : Expr → Bool
  | .ListComp .. => c
  | .DictComp .. => c
  | e => notComp e
theorem swaps_may {y : Str} {py : Pos} {l : Nat} {env : PySem.Env} {e : Expr} {c : Bool} (hc : c = true → env.scope.names.lookup y = some .cell) (h : mayAsg c e = true) : swapsWith e (some (.Name y py)) l env = pure false := by
  cases e with
  | ListComp elt gs sc pos =>
    have k : env.kindOf y = some .cell := hc h
    unfold swapsWith
    simp only [k]
    have : (some NameKind.cell == some NameKind.local) = false := rfl
    rw [this]
    simp only [Bool.and_false, Bool.false_and] <;> rfl
  | DictComp kx vx gs sc pos =>
    have k : env.kindOf y = some .cell := hc h
    unfold swapsWith
    simp only [k]
    have : (some NameKind.cell == some NameKind.local) = false := rfl
    rw [this]
    simp only [Bool.and_false, Bool.false_and] <;> rfl
  | _ => first | rfl | cases h
theorem ss_asg {i : Nat} {y : Str} {c : Bool} (hN : X.N.Nodup) (hi : X.N[i]? = some y) (hx : L2.Loc X.env.scope y) (hf : X.fn y = true ∨ X.env.scope.names.lookup y = some .local) (hc : c = true → X.env.scope.names.lookup y = some .cell) (hn : mayAsg c e = true) (he : SE X e p) :
    PS X (.Assign [.Name y pos'] e pos) (tS (kw X W) fun ρ h => (p.v ρ h).then_ fun x h1 => .nxt (ρ.set i (some x)) h1) :=
  (ps_set hN hi hx he.v (swaps_may hc hn) hf).imp fun D σ H ⟨ρ, h, J, re, rh, q⟩ => (PostS.step (R1 := rD X.K) (f := p.v) re rh q).mono fun x H1 ⟨J1, h1, dx, e1, re1, rh1, rx, q1⟩ => q1 J1 H1 _ Ext.refl (re1.set i rx) rh1
theorem ss_exp (hn : notComp e = true) (he : SE X e p) : PS X (.Expr e pos) (tS (kw X W) fun ρ h => (p.v ρ h).then_ fun _ h1 => .nxt ρ h1) :=
  (ps_expr he.v (swaps_not hn)).imp fun D σ H ⟨ρ, h, J, re, rh, q⟩ => (PostS.step (R1 := rD X.K) (f := p.v) re rh q).mono fun x H1 ⟨J1, h1, dx, e1, re1, rh1, rx, q1⟩ => q1 J1 H1 _ Ext.refl re1 rh1
theorem ss_ret (he : SE X e p) : PS X (.Return (some e) pos) (tS (kw X W) fun ρ h => (p.v ρ h).then_ fun x h1 => .ret x h1) :=
  (ps_ret he.v).imp fun D σ H ⟨ρ, h, J, re, rh, q⟩ => (PostS.step (R1 := rD X.K) (f := p.v) re rh q).mono fun x H1 ⟨J1, h1, dx, e1, re1, rh1, rx, q1⟩ => q1 J1 H1 _ Ext.refl rh1 rx
theorem ss_retN : PS X (.Return none pos) (tS (kw X W) fun _ h => .ret .non h) := ps_retN.imp fun D σ H ⟨ρ, h, J, re, rh, q⟩ => q J H _ Ext.refl rh .non
theorem ss_pass : PS X (.Pass pos) (tS (kw X W) fun ρ h => .nxt ρ h) := ps_pass.imp fun D σ H ⟨ρ, h, J, re, rh, q⟩ => q J H σ Ext.refl re rh
theorem ss_brk : PS X (.Break pos) (tS (kw X W) fun ρ h => .brk ρ h) := ps_break.imp fun D σ H ⟨ρ, h, J, re, rh, q⟩ => q J H σ Ext.refl re rh
theorem ss_cnt : PS X (.Continue pos) (tS (kw X W) fun ρ h => .cnt ρ h) := ps_continue.imp fun D σ H ⟨ρ, h, J, re, rh, q⟩ => q J H σ Ext.refl re rh
theorem ss_if {as bs : List Stmt} {f g : Env → Hh → RS} (hc : SE X e p) (ha : PSs X as (tS (kw X W) f)) (hb : PSs X bs (tS (kw X W) g)) : PS X (.If e as bs pos) (tS (kw X W) fun ρ h => (p.t ρ h).then_ fun t h1 => if t then f ρ h1 else g ρ h1) :=
  (ps_if hc.t ha hb).imp fun D σ H ⟨ρ, h, J, re, rh, q⟩ => (PostS.step (R1 := rB) (f := p.t) re rh q).mono fun x H1 ⟨J1, h1, t, e1, re1, rh1, rx, q1⟩ => by
    have rx : t = x := rx
    subst rx
    cases t with
    | true => exact ⟨ρ, h1, J1, re1, rh1, q1⟩
    | false => exact ⟨ρ, h1, J1, re1, rh1, q1⟩
theorem ss_whl {body : List Stmt} {f : Env → Hh → RS} (hx : PassesOwn (model X.prog X.w) X.A X.env X.xe) (hc : SE X e p) (hb : PSs X body (tS (kw X W) f)) : PS X (.While e body [] pos) (tS (kw X W) fun ρ h => whlLoop p.t f wfuel ρ h) := by
  refine (ps_while hx hc.t hb).imp fun D σ H ⟨ρ, h, J, re, rh, q⟩ => ?_
  refine ⟨fun m σ H => ∃ ρ h J, RE X.K J H ρ σ ∧ RH X.K J h H ∧ PostS (kw X W) J H (whlLoop p.t f m ρ h) D, ⟨wfuel, ρ, h, J, re, rh, q⟩, ?_⟩
  clear q re rh
  rintro m σ H ⟨ρ, h, J, re, rh, q⟩
  cases m with
  | zero => exact False.elim q
  | succ m =>
    refine (PostS.step (R1 := rB) (f := p.t) re rh q).mono fun x H1 ⟨J1, h1, t, e1, re1, rh1, rx, q1⟩ => ?_
    have rx : t = x := rx
    subst rx
    cases t with
    | false => exact q1 J1 H1 _ Ext.refl re1 rh1
    | true =>
      simp only [if_true] at q1 ⊢
      refine ⟨fun σ' H' => ∃ ρ h J, RE X.K J H' ρ σ' ∧ RH X.K J h H' ∧ PostS (kw X W) J H' (whlLoop p.t f m ρ h) D, fun σ' H' z => ⟨m, Nat.lt_succ_self m, z⟩, ρ, h1, J1, re1, rh1, ?_⟩
      cases ef : f ρ h1 with
      | nxt ρ' h' => rw [ef] at q1; exact fun J2 H2 s e2 re2 rh2 => ⟨ρ', h', J2, re2, rh2, PostS.ext rh1 rh2 e2 q1⟩
      | cnt ρ' h' => rw [ef] at q1; exact fun J2 H2 s e2 re2 rh2 => ⟨ρ', h', J2, re2, rh2, PostS.ext rh1 rh2 e2 q1⟩
      | brk ρ' h' => rw [ef] at q1; exact q1
      | ret d h' => rw [ef] at q1; exact q1
      | bad => rw [ef] at q1; exact q1
      | err _ _ _ => rw [ef] at q1; exact q1
theorem ss_for {tg iter : Expr} {body : List Stmt} {t : Tg} {fi : Env → Hh → R Src} {f : Env → Hh → RS} (hx : PassesOwn (model X.prog X.w) X.A X.env X.xe) (hc : X.calm = true) (hi : PI X tg iter (tI X.K fi)) (hg : ST X tg t t.slots) (hb : PSs X body (tS (kw X W) f)) (hp : plainX iter = true) :
    PS X (.For tg iter body [] pos) (tS (kw X W) fun ρ h => (fi ρ h).then_ fun s h1 => forLoop s.good t f s.items ρ h1) := by
  refine (ps_for hx hc hi hg.run hb (plain_fold hp _)).imp fun D σ H ⟨ρ, h, J, re, rh, q⟩ => ?_
  refine ⟨ρ, h, J, re, rh, ?_⟩
  dsimp only at q
  cases ev : fi ρ h with
  | bad => rw [ev] at q; exact q
  | err _ _ => rw [ev] at q; exact q
  | ok src h1 =>
    rw [ev, R.then_ok] at q
    intro J1 H1 it e1 rh1 itok
    let Wf : Nat → Nat → L2.St → Hp → Prop := fun i m σ H2 => m = src.items.length - i ∧ i ≤ src.items.length ∧ ∃ ρ2 h2 J2, RE X.K J2 H2 ρ2 σ ∧ RH X.K J2 h2 H2 ∧ Sub J1 H1 J2 H2 ∧ PostS (kw X W) J2 H2 (forLoop src.good t f (src.items.drop i) ρ2 h2) D
    refine ⟨Wf, ⟨src.items.length, by simp, Nat.zero_le _, ρ, h1, J1, re.ext e1, rh1, Sub.refl, PostS.ext rh rh1 e1 q⟩, fun i m σ H2 hW => ?_⟩
    clear q
    obtain ⟨rfl, hi', ρ2, h2, J2, re2, rh2, s2, q⟩ := hW
    cases hd : src.items[i]? with
    | none =>
      have hlen : i = src.items.length := by have := List.getElem?_eq_none_iff.mp hd; omega
      subst hlen
      rw [List.drop_eq_nil_of_le (Nat.le_refl _)] at q
      unfold forLoop at q
      split at q
      · rename_i hgood
        exact .inl ⟨itok.stop s2 rh2 hgood, q J2 H2 σ Ext.refl re2 rh2⟩
      · exact False.elim q
    | some d =>
      have hlt : i < src.items.length := (List.getElem?_eq_some_iff.mp hd).1
      rw [List.drop_eq_getElem_cons hlt] at q
      have hde : src.items[i] = d := by rw [List.getElem?_eq_getElem hlt] at hd; exact Option.some.inj hd
      rw [hde] at q
      unfold forLoop at q
      cases hgood : src.good h2 with
      | false => rw [hgood] at q; exact False.elim q
      | true =>
        rw [hgood] at q
        simp only [if_true] at q
        obtain ⟨g1, g2⟩ := itok.go s2 rh2 hgood hd
        refine .inr ⟨g1, fun σ' H' => ∃ m', m' < src.items.length - i ∧ Wf (i + 1) m' σ' H', fun σ' H' z => z, fun xv H3 y3 => ?_⟩
        obtain ⟨e3, rh3, rd3⟩ := g2 xv H3 y3
        cases ht2 : t.put d ρ2 with
        | none => simp only [ht2] at q; exact False.elim q
        | some ρ' =>
          simp only [ht2] at q
          have q := PostS.ext rh2 rh3 e3 q
          refine ⟨ρ2, ρ', h2, J2, d, re2.ext e3, rh3, rd3, ht2, fun σ2 re4 hk hl => ⟨ρ', h2, J2, re4, rh3, ?_⟩⟩
          have again : ∀ {ρ5 : Env} {h5 : Hh}, PostS (kw X W) J2 H3 (forLoop src.good t f (src.items.drop (i + 1)) ρ5 h5) D → ∀ J5 H5 σ5, Ext J2 H3 J5 H5 → RE X.K J5 H5 ρ5 σ5 → RH X.K J5 h5 H5 → ∃ m', m' < src.items.length - i ∧ Wf (i + 1) m' σ5 H5 :=
            fun {ρ5 h5} q5 J5 H5 σ5 e5 re5 rh5 => ⟨_, by omega, rfl, hlt, ρ5, h5, J5, re5, rh5, (s2.trans e3.sub).trans e5.sub, PostS.ext rh3 rh5 e5 q5⟩
          cases ef : f ρ' h2 with
          | nxt ρ5 h5 => rw [ef] at q; exact again q
          | cnt ρ5 h5 => rw [ef] at q; exact again q
          | brk ρ5 h5 => rw [ef] at q; exact q
          | ret d h' => rw [ef] at q; exact q
          | bad => rw [ef] at q; exact q
          | err _ _ _ => rw [ef] at q; exact q
/-! ### calls whose exception goes on -/
theorem callX_do {F : Fns} {f n : Nat} {pl : PL} {g : D → Env → Hh → RS} {D : Ends} {σ : L2.St} {H : Hp} (hlen : ∀ ρ h ds h', pl.l ρ h = .ok ds h' → ds.length = n) (ρ : Env) (h : Hh) (J : Jn) (re : RE X.K J H ρ σ) (rh : RH X.K J h H) (q : PostS (kw X W) J H ((pl.l ρ h).then_ fun xs h1 => (F f xs h1).thenX ρ fun x h2 => g x ρ h2) D) :
    tCX X W F f n pl.l σ H (fun v H1 => ∃ d h1 J1, RE X.K J1 H1 ρ σ ∧ RH X.K J1 h1 H1 ∧ RD X.K J1 H1 d v ∧ PostS (kw X W) J1 H1 (g d ρ h1) D) := by
  refine ⟨ρ, h, J, re, rh, ?_⟩
  cases ev : pl.l ρ h with
  | bad => rw [ev] at q; exact q
  | err _ _ => rw [ev] at q; exact q
  | ok ds h1 =>
    rw [ev, R.then_ok] at q
    intro J1 H1 vs e1 rh1 rs
    have q1 := PostS.ext rh rh1 e1 q
    refine ⟨J1, h1, ds, rh1, rs, hlen _ _ _ _ ev, ?_⟩
    have re1 := re.ext e1
    cases ef : F f ds h1 with
    | bad => rw [ef] at q1; exact q1
    | err x h2 => rw [ef] at q1; exact fun J2 H2 c d e2 rh2 rx => q1 J2 H2 σ c d e2 (re1.ext e2) rh2 rx
    | ok d h2 => rw [ef] at q1; exact fun J2 H2 b e2 rh2 rd => ⟨d, h2, J2, re1.ext e2, rh2, rd, PostS.ext rh1 rh2 e2 q1⟩
end
end PV
end

section
set_option maxRecDepth 100000
namespace PV
open L2 PySem PySem.Spec PyProof.Rows
section
variable {X : Cx} {W : WX} {e x a b : Expr} {st : Stmt} {p pa pb pc : P} {pos pos' : Pos}

/-! ### several names at once -/
theorem ss_unp {es : List Expr} {is : List Nat} {k : Nat} {tp : Pos} (hc : X.calm = true) (hs : STs X es is) (hn : notComp e = true) (ht : swappedStores [.Tuple es k tp] e X.env = pure none) (he : SE X e p) :
    PS X (.Assign [.Tuple es k tp] e pos) (tS (kw X W) fun ρ h => (p.v ρ h).then_ fun x h1 => RS.opt ((Tg.tu is).put x ρ) h1) := by
  refine (ps_asg he.v (st_tu hc hs).run ?_ ?_).imp fun D σ H ⟨ρ, h, J, re, rh, q⟩ => ?_
  · unfold swapsWithSole
    exact swaps_not hn
  · exact ht
  refine (PostS.step (R1 := rD X.K) (f := p.v) re rh q).mono fun x H1 ⟨J1, h1, dx, e1, re1, rh1, rx, q1⟩ => ?_
  cases hp : (Tg.tu is).put dx ρ with
  | none => rw [hp] at q1; exact False.elim q1
  | some ρ' => rw [hp] at q1; exact ⟨ρ, ρ', h1, J1, dx, re1, rh1, rx, hp, fun σ' re' _ _ => q1 J1 H1 σ' Ext.refl re' rh1⟩
theorem swapped_no {es : List Expr} {k : Nat} {tp : Pos} {env : PySem.Env} (ht : asTup e = none) : swappedStores [.Tuple es k tp] e env = pure none := by
  cases e <;> first | rfl | cases ht
theorem filter_lt {α β : Type} {f : α → Option β} : ∀ {l : List α}, (∃ x ∈ l, f x = none) → (l.filterMap f).length ≠ l.length
  | [], h => by obtain ⟨x, hx, _⟩ := h; cases hx
  | y :: l, h => by
    obtain ⟨x, hx, e⟩ := h
    have le := List.length_filterMap_le f l
    cases q : f y with
    | none => rw [List.filterMap_cons_none q, List.length_cons]; omega
    | some z =>
      rw [List.filterMap_cons_some q, List.length_cons, List.length_cons]
      (rcases List.mem_cons.mp hx with rfl | hx)
      · rw [q] at e; cases e
      · have := filter_lt (l := l) ⟨x, hx, e⟩
        omega
/-- .. a captured one among them: they are not -/
theorem swapped_cel {es : List Expr} {tp : Pos} {k : Nat} {env : PySem.Env} (h : ∃ y ∈ es, ∃ x p, y = .Name x p ∧ env.scope.names.lookup x = some .cell) : swappedStores [.Tuple es k tp] e env = pure none := by
  have one : ∀ line : Nat, ((es.filterMap fun
    | .Name id p0 => if env.kindOf id == some .local && p0.line == line then some id else none
    | _ => none).length ≠ es.length) := by
    intro line
    refine filter_lt ?_
    obtain ⟨y, hy, x, p, rfl, hl⟩ := h
    have kx : env.kindOf x = some .cell := hl
    exact ⟨_, hy, by simp [kx]⟩
  unfold swappedStores
  cases e <;> try rfl
  dsimp only
  split
  · rfl
  · split
    · rfl
    · rw [if_pos]
      rw [Bool.or_eq_true]
      exact .inl (bne_iff_ne.mpr (one _))
/-- two names from two values: the stores are swapped -/
theorem swapped_two {x y : Str} {px py tp vp : Pos} {k k2 : Nat} {env : PySem.Env} (hk : env.scope.kind = .function) (hx : env.scope.names.lookup x = some .local) (hy : env.scope.names.lookup y = some .local) (hne : x ≠ y) (hl : (py.line == px.line) = true)
    (ha : plainX a = true) (hb : plainX b = true) (hf : (foldedForSure 8 a && foldedForSure 8 b) = false) (hcn : (constantsAlone 8 a && constantsAlone 8 b) = false) :
    swappedStores [.Tuple [.Name x px, .Name y py] k tp] (.Tuple [a, b] k2 vp) env = pure (some [x, y]) := by
  have kx : env.kindOf x = some .local := hx
  (have ky : env.kindOf y = some .local := hy)
  have hbk : env.blockKind = .function := by unfold PySem.Env.blockKind; rw [hk]; rfl
  have h1 : ([a, b].any fun | .Starred .. => true | _ => false) = false := by
    cases a <;> first | (exfalso; cases ha; done) | (cases b <;> first | (exfalso; cases hb; done) | rfl)
  have h2 : [a, b].all (foldedForSure 8) = false := by simpa using hf
  have h3 : [a, b].all (constantsAlone 8) = false := by simpa using hcn
  have hl' : py.line = px.line := by simpa using hl
  have h5 : ([x, y] : List Str).eraseDups.length = 2 := by
    have h6 : (y == x) = false := by simpa using (Ne.symm hne)
    simp [List.eraseDups_cons, h6]
  unfold swappedStores
  simp only [hbk, h1, h2, h3, List.filterMap_cons, List.filterMap_nil, kx, ky, List.head?_cons, Option.map_some, Option.getD_some, Expr.pos, hl', beq_self_eq_true, Bool.and_self, if_true, h5]
  rw [if_neg (by simp), if_neg (fun hh => absurd (hh.symm.trans h1) (by decide)), if_neg (by simp), if_neg (by decide), if_neg (by decide)]
theorem ss_par {i j : Nat} {x y : Str} {px py tp vp : Pos} {k k2 : Nat} (hc : X.calm = true) (hN : X.N.Nodup) (hi : X.N[i]? = some x) (hj : X.N[j]? = some y) (hij : i ≠ j) (hk : X.env.scope.kind = .function)
    (hx : X.env.scope.names.lookup x = some .local) (hy : X.env.scope.names.lookup y = some .local) (hne : x ≠ y) (hl : (py.line == px.line) = true) (hpa : plainX a = true) (hpb : plainX b = true) (hf : (foldedForSure 8 a && foldedForSure 8 b) = false) (hcn : (constantsAlone 8 a && constantsAlone 8 b) = false)
    (ha : SE X a pa) (hb : SE X b pb) :
    PS X (.Assign [.Tuple [.Name x px, .Name y py] k tp] (.Tuple [a, b] k2 vp) pos) (tS (kw X W) fun ρ h => (pa.v ρ h).then_ fun x h1 => (pb.v ρ h1).then_ fun y h2 => .nxt ((ρ.set i (some x)).set j (some y)) h2) := by
  refine (ps_par hc hN hi hj hij hx hy (pa_cons ha.v (pa_cons hb.v pa_nil (plain_star hpb _ _)) (plain_star hpa _ _)) (swapped_two hk hx hy hne hl hpa hpb hf hcn)).imp fun D σ H ⟨ρ, h, J, re, rh, q⟩ => ?_
  refine (PostS.step (R1 := rD X.K) (f := pa.v) re rh q).mono fun x H1 ⟨J1, h1, dx, e1, re1, rh1, rx, q1⟩ => ?_
  refine (PostS.step (R1 := rD X.K) (f := pb.v) re1 rh1 q1).mono fun y H2 ⟨J2, h2, dy, e2, re2, rh2, ry, q2⟩ => ?_
  exact ⟨x, y, rfl, q2 J2 H2 _ Ext.refl ((re2.set i (rx.ext e2)).set j ry) rh2⟩

/-! ### stores -/
theorem putD_rel {K : PySem.W.Frag} {J : Jn} {H : Hp} {kvs : List (Key × D)} {kws : List (Key × V)} {k : Key} {d : D} {v : V} (r : Paired (fun p q => p.1 = q.1 ∧ RD K J H p.2 q.2) kvs kws) (rv : RD K J H d v) :
    Paired (fun p q => p.1 = q.1 ∧ RD K J H p.2 q.2) (putD kvs k d) (putK kws k v) := by
  have ha : ∀ {kvs : List (Key × D)} {kws : List (Key × V)}, Paired (fun p q => p.1 = q.1 ∧ RD K J H p.2 q.2) kvs kws → (kvs.any fun kv => decide (kv.1 = k)) = kws.any fun kv => decide (kv.1 = k) := by
    intro kvs kws r
    induction r with
    | nil => rfl
    | cons x t ih => simp only [List.any_cons, ih, x.1]
  have hm : ∀ {kvs : List (Key × D)} {kws : List (Key × V)}, Paired (fun p q => p.1 = q.1 ∧ RD K J H p.2 q.2) kvs kws → Paired (fun p q => p.1 = q.1 ∧ RD K J H p.2 q.2) (kvs.map fun kv => if kv.1 = k then (kv.1, d) else kv) (kws.map fun kv => if kv.1 = k then (kv.1, v) else kv) := by
    intro kvs kws r
    induction r with
    | nil => exact .nil
    | @cons p q ps qs x t ih =>
      refine .cons ?_ ih
      dsimp only
      by_cases hk : p.1 = k
      · rw [if_pos hk, if_pos (x.1 ▸ hk)]; exact ⟨x.1, rv⟩
      · rw [if_neg hk, if_neg (x.1 ▸ hk)]; exact x
  have hap : ∀ {kvs : List (Key × D)} {kws : List (Key × V)}, Paired (fun p q => p.1 = q.1 ∧ RD K J H p.2 q.2) kvs kws → Paired (fun p q => p.1 = q.1 ∧ RD K J H p.2 q.2) (kvs ++ [(k, d)]) (kws ++ [(k, v)]) := by
    intro kvs kws r
    induction r with
    | nil => exact .cons ⟨rfl, rv⟩ .nil
    | cons x t ih => exact .cons x ih
  unfold putD putK
  rw [ha r]
  split
  · exact hm r
  · exact hap r
theorem putK_len {kws : List (Key × V)} {k : Key} {v : V} : (putK kws k v).length ≤ kws.length + 1 := by
  unfold putK
  split
  · rw [List.length_map]; omega
  · rw [List.length_append]; exact Nat.le_refl _
def rSto (K : PySem.W.Frag) : TSet := fun o i v H Q => ∃ J h do_ di dv h', RH K J h H ∧ RD K J H do_ o ∧ RD K J H di i ∧ RD K J H dv v ∧ stoOp do_ di dv h = some h' ∧ ∀ J' H', Ext J H J' H' → RH K J' h' H' → Q H'
theorem ps_stoR (hu : X.A.units + 1 < cLine) : PSet X (rSto X.K) := by
  intro pins s σ H o i v ov iv u Q I ro ri rv ⟨J, h, do_, di, dv, h', rh, r1, r2, r3, e, q⟩
  cases r1 with
  | @ref n a q1 =>
    obtain ⟨ob, w, h1, h2, h3⟩ := rh.at q1
    simp only [stoOp, h1] at e
    cases h3 with
    | @lst ds vs z rr =>
      cases r2 with
      | int k =>
        dsimp only at e
        split at e
        · rename_i j hj
          cases e
          rw [rr.length] at hj
          have r4 : RDs X.K J H (ds.set j dv) (vs.set j v) := rr.set j r3
          exact set_list pins s σ H _ _ v ov iv u Q I ro ri rv ⟨a, vs, k, j, rfl, rfl, h2, hj, q J _ (Ext.write q1) (rh.writeL q1 (by simpa using z) r4)⟩
        · cases e
      | _ => cases e
    | @dct kvs kws z rr =>
      dsimp only at e
      split at e
      · rename_i k hk
        split at e
        · rename_i hz
          cases e
          have hz' : kws.length + 1 ≤ sizeLine := by rw [← Paired.length rr]; exact size_of hz
          have hi := key_inv hk r2
          subst hi
          exact set_dict hu pins s σ H _ _ v ov iv u Q I ro ri rv ⟨a, _, rfl, .k h2 hz', q J _ (Ext.write q1) (rh.write q1 (.dct (Nat.le_trans putK_len hz') (Paired.mapP (putD_rel rr r3) fun p q x => ⟨x.1, x.2.ext (Ext.write q1)⟩)))⟩
        · cases e
      · cases e
  | _ => cases e
theorem ss_sto {o i : Expr} {po pi : P} {sp : Pos} (hu : X.A.units + 200 < cLine) (hn : plainX i = true) (ho : SE X o po) (hi : SE X i pi) (he : SE X e p) :
    PS X (.Assign [.Subscript o i sp] e pos) (tS (kw X W) fun ρ h => (p.v ρ h).then_ fun x h1 => (po.v ρ h1).then_ fun y h2 => (pi.v ρ h2).then_ fun z h3 => match stoOp y z x h3 with
    | some h4 => .nxt ρ h4
    | none => .bad) := by
  refine (ps_asg he.v (pg_sub ho.v hi.v (ps_stoR (by omega)) ?_) ?_).imp fun D σ H ⟨ρ, h, J, re, rh, q⟩ => ?_
  · intro v; cases i <;> first | rfl | cases hn
  · cases e <;> rfl
  refine (PostS.step (R1 := rD X.K) (f := p.v) re rh q).mono fun x H1 ⟨J1, h1, dx, e1, re1, rh1, rx, q1⟩ => ?_
  refine (PostS.step (R1 := rD X.K) (f := po.v) re1 rh1 q1).mono fun y H2 ⟨J2, h2, dy, e2, re2, rh2, ry, q2⟩ => ?_
  refine (PostS.step (R1 := rD X.K) (f := pi.v) re2 rh2 q2).mono fun z H3 ⟨J3, h3, dz, e3, re3, rh3, rz, q3⟩ => ?_
  cases hs : stoOp dy dz dx h3 with
  | none => rw [hs] at q3; exact False.elim q3
  | some h4 =>
    rw [hs] at q3
    exact ⟨J3, h3, dy, dz, dx, h4, rh3, ry.ext e3, rz, (rx.ext e2).ext e3, hs, fun J4 H4 e4 rh4 => q3 J4 H4 σ e4 (re3.ext e4) rh4⟩
def rAug (K : PySem.W.Frag) (o : BOp) : TIp := fun x y H Q => ∃ J dx dy d, RD K J H dx x ∧ RD K J H dy y ∧ augOp o dx dy = some d ∧ ∀ v, RD K J H d v → Q v H
def augM : BOp → Operator → Bool
  | .add, .Add => true
  | .sub, .Sub => true
  | .fdiv, .FloorDiv => true
  | .mod, .Mod => true
  | _, _ => false
theorem augM_ok {o : BOp} {op : Operator} (h : augM o op = true) : PIp X op (rAug X.K o) := by
  unfold augM at h
  split at h
  · intro pins s σ H x y v u Q I rx ry ⟨J, dx, dy, d, r1, r2, e, q⟩
    simp only [augOp] at e
    split at e
    · cases e; cases r1; cases r2
      exact iop_add pins s σ H _ _ v u Q I rx ry ⟨_, _, rfl, rfl, q _ (.int _)⟩
    · cases r1; cases r2
      split at e
      · rename_i hz; cases e
        exact iop_add_str pins s σ H _ _ v u Q I rx ry ⟨_, _, rfl, rfl, size_of hz, q _ (.str _)⟩
      · cases e
    · cases e
  · intro pins s σ H x y v u Q I rx ry ⟨J, dx, dy, d, r1, r2, e, q⟩
    simp only [augOp] at e
    split at e
    · cases e; cases r1; cases r2
      exact iop_sub pins s σ H _ _ v u Q I rx ry ⟨_, _, rfl, rfl, q _ (.int _)⟩
    · cases e
  · intro pins s σ H x y v u Q I rx ry ⟨J, dx, dy, d, r1, r2, e, q⟩
    simp only [augOp] at e
    split at e
    · cases r1; cases r2
      split at e
      · rename_i hz; cases e
        exact iop_fdiv pins s σ H _ _ v u Q I rx ry ⟨_, _, rfl, rfl, hz, q _ (.int _)⟩
      · cases e
    · cases e
  · intro pins s σ H x y v u Q I rx ry ⟨J, dx, dy, d, r1, r2, e, q⟩
    simp only [augOp] at e
    split at e
    · cases r1; cases r2
      split at e
      · rename_i hz; cases e
        exact iop_mod pins s σ H _ _ v u Q I rx ry ⟨_, _, rfl, rfl, hz, q _ (.int _)⟩
      · cases e
    · cases e
  · cases h
theorem ss_aug {i : Nat} {y : Str} {o : BOp} {op : Operator} (hN : X.N.Nodup) (hi : X.N[i]? = some y) (hx : L2.Loc X.env.scope y) (hf : X.fn y = true ∨ X.env.scope.names.lookup y = some .local) (ho : augM o op = true) (he : SE X e p) :
    PS X (.AugAssign (.Name y pos') op e pos) (tS (kw X W) fun ρ h => match ρ[i]? with
    | some (some x) => (p.v ρ h).then_ fun y h1 => match augOp o x y with
      | some z => .nxt (ρ.set i (some z)) h1
      | none => .bad
    | _ => .bad) := by
  refine (ps_aug hN hi hx he.v (augM_ok ho) hf).imp fun D σ H ⟨ρ, h, J, re, rh, q⟩ => ?_
  dsimp only at q
  cases e0 : ρ[i]? with
  | none => rw [e0] at q; exact False.elim q
  | some od =>
    cases od with
    | none => rw [e0] at q; exact False.elim q
    | some d =>
      rw [e0] at q
      obtain ⟨v, hv, rd⟩ := re.get i d e0
      refine ⟨v, hv, ?_⟩
      refine (PostS.step (R1 := rD X.K) (f := p.v) re rh q).mono fun x H1 ⟨J1, h1, dx, e1, re1, rh1, rx, q1⟩ => ?_
      cases ha : augOp o d dx with
      | none => rw [ha] at q1; exact False.elim q1
      | some z =>
        rw [ha] at q1
        exact ⟨J1, d, dx, z, rd.ext e1, rx, ha, fun w rw' => q1 J1 H1 _ Ext.refl (re1.set i rw') rh1⟩
/-- name += a list -/
def rAugL (K : PySem.W.Frag) (h : Hh) (r : Nat) (dy : D) : TIp := fun x y H Q => ∃ J h', RH K J h H ∧ RD K J H (.ref r) x ∧ RD K J H dy y ∧ augLOp r dy h = some h' ∧ ∀ J' H', Ext J H J' H' → RH K J' h' H' → Q x H'
theorem augL_ok {K0 : PySem.W.Frag} (hK : X.K = K0) : PIp X .Add (fun x y H Q => ∃ h r dy, rAugL K0 h r dy x y H Q) := by
  subst hK
  intro pins s σ H x y v u Q I rx ry ⟨h, r, dy, J, h', rh, r1, r2, e, q⟩
  cases r1 with
  | @ref _ a q1 =>
    obtain ⟨ob, w, h1, h2, h3⟩ := rh.at q1
    unfold augLOp at e
    rw [h1] at e
    cases h3 with
    | @lst ds vs z rr =>
      cases eo : dy.own h with
      | none => rw [eo] at e; cases e
      | some ys =>
        rw [eo] at e
        dsimp only at e
        split at e
        · rename_i hz
          cases e
          obtain ⟨b, ws, rfl, hb, zb, rb⟩ := own_inv rh eo r2
          have hlen : vs.length + ws.length ≤ sizeLine := by rw [← rr.length, ← rb.length]; exact size_of hz
          exact iop_ext pins s σ H _ _ v u Q I rx ry ⟨a, b, vs, ws, rfl, rfl, h2, hb, hlen, q J _ (Ext.write q1) (rh.writeL q1 (by rw [List.length_append]; exact hlen) (rr.append rb))⟩
        · cases e
    | dct z rr => cases dy.own h <;> cases e
theorem ss_augL {i : Nat} {y : Str} (hN : X.N.Nodup) (hi : X.N[i]? = some y) (hx : L2.Loc X.env.scope y) (hf : X.fn y = true ∨ X.env.scope.names.lookup y = some .local) (he : SE X e p) :
    PS X (.AugAssign (.Name y pos') .Add e pos) (tS (kw X W) fun ρ h => match ρ[i]? with
    | some (some (.ref r)) => (p.v ρ h).then_ fun y h1 => match augLOp r y h1 with
      | some h2 => .nxt (ρ.set i (some (.ref r))) h2
      | none => .bad
    | _ => .bad) := by
  refine (ps_aug hN hi hx he.v (augL_ok rfl) hf).imp fun D σ H ⟨ρ, h, J, re, rh, q⟩ => ?_
  dsimp only at q
  cases e0 : ρ[i]? with
  | none => rw [e0] at q; exact False.elim q
  | some od =>
    cases od with
    | none => rw [e0] at q; exact False.elim q
    | some d =>
      rw [e0] at q
      cases d with
      | ref r =>
        dsimp only at q
        obtain ⟨v, hv, rd⟩ := re.get i _ e0
        refine ⟨v, hv, ?_⟩
        refine (PostS.step (R1 := rD X.K) (f := p.v) re rh q).mono fun x H1 ⟨J1, h1, dx, e1, re1, rh1, rx, q1⟩ => ?_
        cases ha : augLOp r dx h1 with
        | none => rw [ha] at q1; exact False.elim q1
        | some h2 =>
          rw [ha] at q1
          exact ⟨h1, r, dx, J1, h2, rh1, rd.ext e1, rx, ha, fun J2 H2 e2 rh2 => q1 J2 H2 _ e2 ((re1.ext e2).set i ((rd.ext e1).ext e2)) rh2⟩
      | _ => exact False.elim q
/-- name = [..] -/
theorem ss_asgLc {i : Nat} {y : Str} {py sp : Pos} {elt tg iter : Expr} {ifs : List Expr} {scope : Scope} {own : List (Str × Nat)} {t : Tg} {f : Env → Hh → R Src} {v' : Env → Hh → R D} (hc : X.calm = true) (hN : X.N.Nodup) (hy : X.N[i]? = some y) (hyl : X.env.scope.names.lookup y = some .local)
    (hk : X.env.scope.kind = .function) (hl : (py.line == pos.line) = true) (hsh : (scope.names.any fun (n, k) => n == y && (k == .local || k == .cell)) = false) (hi : PI X tg iter (tI X.K f)) (ok : BlkOk X.N X.env.scope scope own) (hown : own.map (·.2) = t.slots)
    (hg : ∀ (s : Shared) (H : Hp) (C : Addr) (cl : List (Str × Addr)) (fp : List Addr), ST (X.blk s H scope (compEnvC scope cl C X.env) fp) tg t t.slots)
    (ht : ∀ (s : Shared) (H : Hp) (C : Addr) (cl : List (Str × Addr)) (fp : List Addr), PTs (X.blk s H scope (compEnvC scope cl C X.env) fp) ifs (tG X.K rB pc.t))
    (he : ∀ (s : Shared) (H : Hp) (C : Addr) (cl : List (Str × Addr)) (fp : List Addr), PE (X.blk s H scope (compEnvC scope cl C X.env) fp) elt (tG X.K (rD X.K) p.v)) (hs : ∀ x, foldedSetIterable iter X.env x = pure x)
    (hv : ∀ {σ : L2.St} {H : Hp} {Q : VK}, tG X.K (rD X.K) v' σ H Q → tF X.K (fun ρ h => (f ρ h).bind fun s h1 => if sizeOk s.items.length then lcLoop s.good (lcTurn t pc p ρ) s.items [] h1 else .bad) σ H Q) :
    PS X (.Assign [.Name y py] (.ListComp elt [⟨tg, iter, ifs, 0⟩] scope pos) sp) (tS (kw X W) fun ρ h => (v' ρ h).then_ fun x h1 => .nxt (ρ.set i (some x)) h1) := by
  refine (ps_setLc (g := gD X.K t t.slots) (tt := tG X.K rB pc.t) (te := tG X.K (rD X.K) p.v) hc hN hy hyl (sw_true hk hyl hl hsh) hi ok (fun s H C cl fp => (hg s H C cl fp).run) ht he hs).imp fun D σ H ⟨ρ, h, J, re, rh, q⟩ => ?_
  rw [hown]
  refine lc_read (hv ?_)
  exact (PostS.step (R1 := rD X.K) (f := v') re rh q).mono fun x H1 ⟨J1, h1, dx, e1, re1, rh1, rx, q1⟩ => q1 J1 H1 _ Ext.refl (re1.set i rx) rh1
end
end PV
end

section
set_option maxRecDepth 100000
/-! PvT: a, b = x, y within an except suite. -/
namespace PV
open L2 PySem PySem.Spec PyProof.Rows
section
variable {w : World} {prog : Program} {A : Around} {E : Value → Shared → Prop} {s : Shared}
theorem hot_end {it t x1 : Addr} {i : Nat} {items : Array Value} {Q : Option Value → Shared → Prop} (hot : HotX.HotAt A x1 s.heap) (hne : x1 ≠ it) (hit : IsTupIter s.heap it t i) (ht : IsTup s.heap t items) (hx : items[i]? = none) (hQ : ∀ h', Heap.ExtBut it s.heap h' → Q none { s with heap := h' }) : wpAny (model prog w) A (pyNext (.ref it)) Q E s := by
  (obtain ⟨o, ho, hc, hd⟩ := id hit)
  (obtain ⟨ol, hol, _, nl, hdl⟩ := ht)
  (obtain ⟨hh, o1, vs1, h1, d1, c1⟩ := hot)
  unfold pyNext
  refine wpAny_bind (wpAny_attempt (wpAny_callSpecial?_slot (name := Str.ofString "__next__") hit.typeIs slot_tupleiter_next (wpAny_call_entry slot_tupleiter_next hit.typeIs entry_tupleiter_next ?_ (args_tupleiter_next _))))
  (show wpAny _ _ (field (.ref it) 0 >>= _) _ _ s)
  (refine wpAny_bind (wpAny_field ho hd (x := .ref t) rfl ?_))
  (show wpAny _ _ (if (Value.ref t == Value.none) = true then _ else _) _ _ s)
  (rw [if_neg (show ¬ ((Value.ref t == Value.none) = true) from Bool.false_ne_true)])
  (show wpAny _ _ (field (.ref it) 1 >>= _) _ _ s)
  (refine wpAny_bind (wpAny_field ho hd (x := .int i 0) rfl ?_))
  (show wpAny _ _ (seqItems? (.ref t) >>= _) _ _ s)
  (refine wpAny_bind (wpAny_seqItems hol hdl ?_))
  (simp only [Int.toNat_natCast, hx])
  (refine wpAny_bind (wpAny_rule (wpAny_bind (wpAny_setField ho hd (by simp) ?_))))
  have h2 : (s.heap.update it (Obj.mapFields (·.setIfInBounds 0 .none))).get? x1 = some o1 := by
    rw [Heap.get?_update_other _ _ (Ne.symm hne)]
    exact h1
  (show wpAny _ _ (newExc (.type "StopIteration") [] >>= _) _ _ _)
  refine wpAny_bind ?_
  simp only [newExc, newTuple]
  (refine wpAny_bind (wpAny_newObj_type ?_ (by size_fits)))
  (refine wpAny_bind (m := firstArgMember _ _) (wpAny_of_eq (a := Value.none) (by first | rfl | (simp only [firstArgMember]; rfl)) ?_))
  (refine wpAny_newObj_type ?_ (by size_fits))
  refine HotX.raiseNew_hot ⟨hh, o1, vs1, Heap.get?_push_of_some _ (Heap.get?_push_of_some _ h2), d1, c1⟩ (Nat.ne_of_lt (Heap.lt_size (Heap.get?_push_of_some _ h2))) (Heap.get?_push_size _ rfl) rfl (by first | (simp; done) | (simp; omega) | (simp only [Array.size_append]; simp; omega)) ?_
  (refine wpAny_bind (wpAny_isInstance (T := "StopIteration") (b := true) ⟨_, Heap.get?_update_self _ (Heap.get?_push_size _ rfl) rfl, rfl⟩ isSubtype_stop ?_))
  (refine wpAny_pure (hQ _ fun b o hb e => ?_))
  have e2 : (s.heap.update it (Obj.mapFields (·.setIfInBounds 0 .none))).get? b = some o := by
    rw [Heap.get?_update_other _ _ (Ne.symm hb)]
    exact e
  rw [Heap.get?_update_other _ _ (Nat.ne_of_gt (Heap.lt_size (Heap.get?_push_of_some _ e2)))]
  exact Heap.get?_push_of_some _ (Heap.get?_push_of_some _ e2)
theorem hot_unpack {t x1 : Addr} {items : Array Value} {Q : List Value → Shared → Prop} (hot : HotX.HotAt A x1 s.heap) (ht : IsTup s.heap t items) (hQ : ∀ h', Heap.ExtBut s.heap.objs.size s.heap h' → Q items.toList { s with heap := h' }) : wpAny (model prog w) A (unpackItems (.ref t) items.size none) Q E s := by
  (have hlt : t ≠ s.heap.objs.size := by obtain ⟨o, ho, _⟩ := ht; exact Nat.ne_of_lt (Heap.lt_size ho))
  (obtain ⟨hh, o1, vs1, h1, d1, c1⟩ := hot)
  unfold unpackItems
  refine wpAny_bind ?_
  · unfold notIterableAtAll
    (refine wpAny_bind (wpAny_specialOf ht.typeIs slot_tuple_iter.lookup ?_))
    refine wpAny_pure ?_
    (simp only [Bool.false_eq_true, if_false])
    (refine wpAny_bind (wpAny_holding (iter_tuple ht ?_)))
    (refine wpAny_bind (wpAny_holding (draw_tuple hlt items.size 0 _ _ ⟨_, Heap.get?_push_size _ rfl, rfl, rfl⟩ (ht.push _) (by omega) fun h₁ hit₁ hs₁ => ?_)))
    have whole : List.take items.size (List.drop 0 items.toList) = items.toList := by
      (rw [List.drop_zero]; exact List.take_of_length_le (by simp))
    rw [whole]
    rw [if_neg (by simp)]
    (have ht₁ : IsTup h₁ t items := (ht.push _).extBut hs₁.extBut hlt)
    have nx : x1 ≠ s.heap.objs.size := Nat.ne_of_lt (Heap.lt_size h1)
    refine wpAny_bind (wpAny_holding (hot_end (x1 := x1) ⟨hh, o1, vs1, hs₁.extBut x1 o1 nx (Heap.get?_push_of_some _ h1), d1, c1⟩ nx hit₁ ht₁ (by simp) fun h₂ he₂ => ?_))
    (simp only [Option.isSome_none, Bool.false_eq_true, if_false])
    (refine wpAny_pure (hQ h₂ fun b o hb e => he₂ b o hb (hs₁.extBut b o hb (Heap.get?_push_of_some _ e))))
end
end PV
namespace PV
open L2 PySem PySem.Spec PyProof.Rows
section
variable {X : Cx} {W : WX} {a b : Expr} {pa pb : P} {pos : Pos}
/-- the exception that is handled is known -/
def tParH (X : Cx) (i j : Nat) (ta : TA) : TS := fun D σ H => ta σ H fun vs H1 => ∃ v w x cls d, vs = [v, w] ∧ X.A.handled = some (.ref x) ∧ H1 x = some (ExD cls d x) ∧ D.nx ((σ.set i (some v)).set j (some w)) H1
theorem ps_parH {i j : Nat} {x y : Str} {a b : Expr} {ta : TA} {px py pt : Pos} {kt k2 : Nat} {pt2 : Pos} (hN : X.N.Nodup) (hi : X.N[i]? = some x) (hj : X.N[j]? = some y) (hij : i ≠ j) (hx : X.env.scope.names.lookup x = some .local) (hy : X.env.scope.names.lookup y = some .local) (ha : PA X [a, b] ta) (hw : swappedStores [.Tuple [.Name x px, .Name y py] kt pt] (.Tuple [a, b] k2 pt2) X.env = pure (some [x, y])) (hs : swapsWithSole [.Tuple [.Name x px, .Name y py] kt pt] (.Tuple [a, b] k2 pt2) pos.line X.env = pure false := by rfl) :
    PS X (.Assign [.Tuple [.Name x px, .Name y py] kt pt] (.Tuple [a, b] k2 pt2) pos) (tParH X i j ta) := by
  (refine ⟨fun pins s σ H D I h => ?_⟩)
  rw [exec_Assign_arm]
  (refine wpAny_bind (wpAny_standAt ?_))
  rw [hs]
  (refine wpAny_bind (wpAny_pure ?_))
  rw [if_neg (by decide)]
  (refine wpAny_bind (Tuple_ (thn (ha.run _ pins s σ H _ I h) fun us s1 ⟨vs, H1, I1, r1, q1⟩ => ?_)))
  obtain ⟨v, w, z, cls, d, e1, hh, ez, q1⟩ := q1
  subst e1
  obtain ⟨u1, u2, rfl, rv, rw'⟩ : (∃ u1 u2, us = [u1, u2] ∧ RelV v u1 ∧ RelV w u2) := by
    cases r1 with
    | cons p q =>
      cases q with
      | cons p' q' =>
        cases q'
        exact ⟨_, _, rfl, p, p'⟩
  obtain ⟨⟨ob, fl, qa, zn, rr⟩, _, _⟩ := (I1.hok z _ ez)
  (refine wpAny_newObj_type ?_ (by show 2 ≤ sizeLine; decide))
  (have I2 : Inv X pins σ H1 { s1 with heap := s1.heap.push { cls := .type "tuple", data := .seq [u1, u2].toArray } } := I1.kept (t' := s1.toks) fun b o e => Heap.get?_push_of_some _ e)
  rw [hw]
  (refine wpAny_bind (wpAny_pure ?_))
  (show wpAny (model X.prog X.w) X.A (do rule "assign.swapped-stores"; let items ← unpackItems (.ref s1.heap.objs.size) 2 none; assignInOrder [fun v => bindName X.env y v, fun v => bindName X.env x v] items.reverse; pure Flow.next) _ _ _)
  refine wpAny_bind (wpAny_rule (wpAny_bind (hot_unpack (x1 := z) (items := #[u1, u2]) ⟨hh, ob, fl, Heap.get?_push_of_some _ qa, rr, zn.2.2 fl rr⟩ (IsTup.new s1.heap _) fun h' hx' => ?_)))
  (have I3 := I2.kept (h' := h') (t' := s1.toks) fun b o e => hx' b o (Nat.ne_of_lt (Heap.lt_size e)) e)
  (show wpAny _ _ (assignInOrder [fun v => bindName X.env y v, fun v => bindName X.env x v] [u2, u1] >>= fun _ => pure Flow.next) _ _ _)
  (refine wpAny_bind (assignInOrder_cons (wpAny_bindName (store_ok I3 hN hj (.inl hy) rw' (fun s2 I4 => ?_) (.inr hy)))))
  (refine assignInOrder_cons (wpAny_bindName (store_ok I4 hN hi (.inl hx) rv (fun s3 I5 => assignInOrder_nil (wpAny_pure ?_)) (.inr hx))))
  (rw [List.set_comm _ _ (Ne.symm hij)] at I5)
  exact ⟨_, H1, I5, q1⟩
/-- what is wanted ahead of a suite's first statement -/
def tH (κ : KW) (z : Addr) (f : Env → Hh → RS) : TS := fun D σ H => ∃ ρ h J, RE κ.K J H ρ σ ∧ RH κ.K J h H ∧ (z ∉ J.l ∧ ∃ cls d, H z = some (ExD cls d z)) ∧ PostS κ J H (f ρ h) D
theorem tH.drop {κ : KW} {z : Addr} {f : Env → Hh → RS} {D : Ends} {σ : L2.St} {H : Hp} (t : tH κ z f D σ H) : tS κ f D σ H := let ⟨ρ, h, J, re, rh, _, q⟩ := t; ⟨ρ, h, J, re, rh, q⟩
theorem ss_parH {z : Addr} {i j : Nat} {x y : Str} {px py tp vp : Pos} {k k2 : Nat} (hh : X.A.handled = some (.ref z)) (hN : X.N.Nodup) (hi : X.N[i]? = some x) (hj : X.N[j]? = some y) (hij : i ≠ j) (hk : X.env.scope.kind = .function) (hx : X.env.scope.names.lookup x = some .local) (hy : X.env.scope.names.lookup y = some .local) (hne : x ≠ y) (hl : (py.line == px.line) = true) (hpa : plainX a = true) (hpb : plainX b = true) (hf : (foldedForSure 8 a && foldedForSure 8 b) = false) (hcn : (constantsAlone 8 a && constantsAlone 8 b) = false)
    (ha : SE X a pa) (hb : SE X b pb) :
    PS X (.Assign [.Tuple [.Name x px, .Name y py] k tp] (.Tuple [a, b] k2 vp) pos) (tH (kw X W) z fun ρ h => (pa.v ρ h).then_ fun x h1 => (pb.v ρ h1).then_ fun y h2 => .nxt ((ρ.set i (some x)).set j (some y)) h2) := by
  refine (ps_parH hN hi hj hij hx hy (pa_cons ha.v (pa_cons hb.v pa_nil (plain_star hpb _ _)) (plain_star hpa _ _)) (swapped_two hk hx hy hne hl hpa hpb hf hcn)).imp fun D σ H ⟨ρ, h, J, re, rh, ⟨nl, cls, d, ez⟩, q⟩ => ?_
  refine (PostS.step (R1 := rD X.K) (f := pa.v) re rh q).mono fun x H1 ⟨J1, h1, dx, e1, re1, rh1, rx, q1⟩ => ?_
  refine (PostS.step (R1 := rD X.K) (f := pb.v) re1 rh1 q1).mono fun y H2 ⟨J2, h2, dy, e2, re2, rh2, ry, q2⟩ => ?_
  have n1 : z ∉ J1.l := by
    obtain ⟨m, hm, hn⟩ := e1.pre
    rw [hm]
    intro mem
    rcases List.mem_append.mp mem with c | c
    · exact nl c
    · have := hn z c
      rw [ez] at this; cases this
  exact ⟨x, y, z, cls, d, rfl, hh, e2.keep _ _ n1 (e1.keep _ _ nl ez), q2 J2 H2 _ Ext.refl ((re2.set i (rx.ext e2)).set j ry) rh2⟩
end
end PV
end

section
set_option maxRecDepth 100000
set_option maxHeartbeats 1000001
namespace PV
open L2 PySem PySem.Spec PyProof.Rows

/-! ### the statements' forms -/
def stAsg : Stmt → Option (Str × Expr)
  | .Assign [.Name y _] e _ => some (y, e)
  | _ => none
def stAsgLc : Stmt → Option (Str × Expr × Expr × Expr × List Expr × Scope)
  | .Assign [.Name y py] (.ListComp elt [⟨tg, iter, ifs, a⟩] scope pos) _ => if a = 0 ∧ (py.line == pos.line) = true then some (y, elt, tg, iter, ifs, scope) else none
  | _ => none
def stPar : Stmt → Option (Str × Str × Expr × Expr)
  | .Assign [.Tuple [.Name x px, .Name y py] _ _] (.Tuple [a, b] _ _) _ => if (py.line == px.line) = true then some (x, y, a, b) else none
  | _ => none
def stUnp : Stmt → Option (List Expr × Expr)
  | .Assign [.Tuple es _ _] e _ => some (es, e)
  | _ => none
def stSto : Stmt → Option (Expr × Expr × Expr)
  | .Assign [.Subscript o i _] e _ => some (o, i, e)
  | _ => none
def stAug : Stmt → Option (Str × Operator × Expr)
  | .AugAssign (.Name y _) op e _ => some (y, op, e)
  | _ => none
def stExp : Stmt → Option Expr
  | .Expr e _ => some e
  | _ => none
def stRet : Stmt → Option Expr
  | .Return (some e) _ => some e
  | _ => none
def stRetN : Stmt → Bool
  | .Return none _ => true
  | _ => false
def stIf : Stmt → Option (Expr × List Stmt × List Stmt)
  | .If c a b _ => some (c, a, b)
  | _ => none
def stWhl : Stmt → Option (Expr × List Stmt)
  | .While c a [] _ => some (c, a)
  | _ => none
def stFor : Stmt → Option (Expr × Expr × List Stmt)
  | .For t i a [] _ => some (t, i, a)
  | _ => none
def stPass : Stmt → Bool
  | .Pass _ => true
  | _ => false
def stBrk : Stmt → Bool
  | .Break _ => true
  | _ => false
def stCnt : Stmt → Bool
  | .Continue _ => true
  | _ => false
section
variable {s : Stmt}
theorem stAsg_eq {y : Str} {e : Expr} (h : stAsg s = some (y, e)) : ∃ p q, s = .Assign [.Name y p] e q := by
  unfold stAsg at h; split at h
  · cases h; exact ⟨_, _, rfl⟩
  · cases h
theorem stAsgLc_eq {y : Str} {elt tg iter : Expr} {ifs : List Expr} {scope : Scope} (h : stAsgLc s = some (y, elt, tg, iter, ifs, scope)) : ∃ py pos q, s = .Assign [.Name y py] (.ListComp elt [⟨tg, iter, ifs, 0⟩] scope pos) q ∧ (py.line == pos.line) = true := by
  unfold stAsgLc at h; split at h
  · split at h
    · rename_i hc; cases h; obtain ⟨rfl, hl⟩ := hc; exact ⟨_, _, _, rfl, hl⟩
    · cases h
  · cases h
theorem stPar_eq {x y : Str} {a b : Expr} (h : stPar s = some (x, y, a, b)) : ∃ px py k tp k2 vp q, s = .Assign [.Tuple [.Name x px, .Name y py] k tp] (.Tuple [a, b] k2 vp) q ∧ (py.line == px.line) = true := by
  unfold stPar at h; split at h
  · split at h
    · rename_i hc; cases h; exact ⟨_, _, _, _, _, _, _, rfl, hc⟩
    · cases h
  · cases h
theorem stUnp_eq {es : List Expr} {e : Expr} (h : stUnp s = some (es, e)) : ∃ k tp q, s = .Assign [.Tuple es k tp] e q := by
  unfold stUnp at h; split at h
  · cases h; exact ⟨_, _, _, rfl⟩
  · cases h
theorem stSto_eq {o i e : Expr} (h : stSto s = some (o, i, e)) : ∃ p q, s = .Assign [.Subscript o i p] e q := by
  unfold stSto at h; split at h
  · cases h; exact ⟨_, _, rfl⟩
  · cases h
theorem stAug_eq {y : Str} {op : Operator} {e : Expr} (h : stAug s = some (y, op, e)) : ∃ p q, s = .AugAssign (.Name y p) op e q := by
  unfold stAug at h; split at h
  · cases h; exact ⟨_, _, rfl⟩
  · cases h
theorem stExp_eq {e : Expr} (h : stExp s = some e) : ∃ q, s = .Expr e q := by
  unfold stExp at h; split at h
  · cases h; exact ⟨_, rfl⟩
  · cases h
theorem stRet_eq {e : Expr} (h : stRet s = some e) : ∃ q, s = .Return (some e) q := by
  unfold stRet at h; split at h
  · cases h; exact ⟨_, rfl⟩
  · cases h
theorem stRetN_eq (h : stRetN s = true) : ∃ q, s = .Return none q := by
  unfold stRetN at h; split at h
  · exact ⟨_, rfl⟩
  · cases h
theorem stIf_eq {c : Expr} {a b : List Stmt} (h : stIf s = some (c, a, b)) : ∃ q, s = .If c a b q := by
  unfold stIf at h; split at h
  · cases h; exact ⟨_, rfl⟩
  · cases h
theorem stWhl_eq {c : Expr} {a : List Stmt} (h : stWhl s = some (c, a)) : ∃ q, s = .While c a [] q := by
  unfold stWhl at h; split at h
  · cases h; exact ⟨_, rfl⟩
  · cases h
theorem stFor_eq {t i : Expr} {a : List Stmt} (h : stFor s = some (t, i, a)) : ∃ q, s = .For t i a [] q := by
  unfold stFor at h; split at h
  · cases h; exact ⟨_, rfl⟩
  · cases h
theorem stPass_eq (h : stPass s = true) : ∃ q, s = .Pass q := by
  unfold stPass at h; split at h
  · exact ⟨_, rfl⟩
  · cases h
theorem stBrk_eq (h : stBrk s = true) : ∃ q, s = .Break q := by
  unfold stBrk at h; split at h
  · exact ⟨_, rfl⟩
  · cases h
theorem stCnt_eq (h : stCnt s = true) : ∃ q, s = .Continue q := by
  unfold stCnt at h; split at h
  · exact ⟨_, rfl⟩
  · cases h
end
def Cs.lcl (c : Cs) (x : Str) : Bool := decide (c.sc.names.lookup x = some .local)
def Cs.cel (c : Cs) (x : Str) : Bool := decide (c.sc.names.lookup x = some .cell)
def celTwo (c : Cs) (es : List Expr) : Bool := es.any fun e => match asName e with
  | some x => c.cel x
  | none => false
theorem celTwo_ok {c : Cs} {es : List Expr} {e : Expr} {k : Nat} {tp : Pos} {env : PySem.Env} (hs : env.scope = c.sc) (h : celTwo c es = true) : swappedStores [.Tuple es k tp] e env = pure none := by
  obtain ⟨y, hy, hc⟩ := List.any_eq_true.mp h
  split at hc
  · rename_i x hx
    obtain ⟨p, rfl⟩ := asName_eq hx
    exact swapped_cel ⟨_, hy, x, p, rfl, by rw [hs]; exact of_decide_eq_true hc⟩
  · cases hc
def foldTwo (x : Expr) : Bool := match asTup x with
  | some vs => vs.all (foldedForSure 8)
  | none => false
theorem swapped_fold {es : List Expr} {x : Expr} {k : Nat} {tp : Pos} {env : PySem.Env} (h : foldTwo x = true) : swappedStores [.Tuple es k tp] x env = pure none := by
  unfold foldTwo at h
  split at h
  · rename_i vs hx
    obtain ⟨k2, vp, rfl⟩ := asTup_eq hx
    unfold swappedStores
    dsimp only
    split
    · rfl
    · split
      · rfl
      · split
        · rfl
        · first | (rw [if_pos h]; rfl) | (simp only [h, if_true]; rfl) | simp [h]
  · cases h
def Cs.isF (c : Cs) : Bool := decide (c.sc.kind = .function)
/-- a list comprehension that is bound to a name -/
def mLc (c : Cs) (y : Str) (elt tg iter : Expr) (ifs : List Expr) (scope : Scope) : E → Bool
  | .lc t it d e => blkC c.N c.sc scope (c.own t) && mI c it tg iter && plainX iter && mT (c.blk scope) t tg && mE (c.blk scope) e elt && (match ifs with
      | [] => d.isMiss
      | [i] => mE (c.blk scope) d i
      | _ => false) && c.isF && c.lcl y && !(scope.names.any fun (n, k) => n == y && (k == .local || k == .cell))
  | _ => false
def E.body : E → E
  | .new e => e
  | e => e
def stRaise : Stmt → Option Str
  | .Raise (some (.Call (.Name x _) [.Constant (.str _) _ _] [] _)) none _ => some x
  | _ => none
theorem stRaise_eq {s : Stmt} {x : Str} (h : stRaise s = some x) : ∃ p m j p2 p3 p4, s = .Raise (some (.Call (.Name x p) [.Constant (.str m) j p2] [] p3)) none p4 := by
  unfold stRaise at h; split at h
  · cases h; exact ⟨_, _, _, _, _, _, rfl⟩
  · cases h
def stRaiseE : Stmt → Option (Str × Expr)
  | .Raise (some (.Call (.Name x _) [e] [] _)) none _ => some (x, e)
  | _ => none
theorem stRaiseE_eq {s : Stmt} {x : Str} {e : Expr} (h : stRaiseE s = some (x, e)) : ∃ p p3 p4, s = .Raise (some (.Call (.Name x p) [e] [] p3)) none p4 := by
  unfold stRaiseE at h; split at h
  · cases h; exact ⟨_, _, _, rfl⟩
  · cases h
def stTry : Stmt → Option (List Stmt × Str × List Stmt)
  | .Try body [.ExceptHandler (some (.Name x _)) none (b :: suite) _] [] [] _ => some (body, x, b :: suite)
  | _ => none
theorem stTry_eq {s : Stmt} {body suite : List Stmt} {x : Str} (h : stTry s = some (body, x, suite)) : ∃ p b sr p2 p3, suite = b :: sr ∧ s = .Try body [.ExceptHandler (some (.Name x p)) none (b :: sr) p2] [] [] p3 := by
  unfold stTry at h; split at h
  · cases h; exact ⟨_, _, _, _, _, rfl, rfl⟩
  · cases h
/-- within a suite -/
def Cs.heat (c : Cs) : Cs := { c with hot := true }
def stTryAs : Stmt → Option (List Stmt × Str × Str × List Stmt)
  | .Try body [.ExceptHandler (some (.Name x _)) (some n) (b :: suite) _] [] [] _ => some (body, x, n, b :: suite)
  | _ => none
theorem stTryAs_eq {s : Stmt} {body suite : List Stmt} {x n : Str} (h : stTryAs s = some (body, x, n, suite)) : ∃ p b sr p2 p3, suite = b :: sr ∧ s = .Try body [.ExceptHandler (some (.Name x p)) (some n) (b :: sr) p2] [] [] p3 := by
  unfold stTryAs at h; split at h
  · cases h; exact ⟨_, _, _, _, _, rfl, rfl⟩
  · cases h
def parB (c : Cs) (i j : Nat) (a b : E) (st : Stmt) : Bool := match stPar st with
  | some (x, y, ea, eb) => decide (c.N[i]? = some x) && decide (c.N[j]? = some y) && decide (i ≠ j) && c.isF && c.lcl x && c.lcl y && decide (x ≠ y) && plainX ea && plainX eb && !(foldedForSure 8 ea && foldedForSure 8 eb) && !(constantsAlone 8 ea && constantsAlone 8 eb) && mE c.heat a ea && mE c.heat b eb
  | none => false
mutual
def mS (c : Cs) : S → Stmt → Bool
  | .asg i e, s => match stAsg s with
    | some (y, x) => c.loc i y && mayAsg (c.cel y) x && mE c e x
    | none => false
  | .asgLc i e, s => match coolO c (stAsgLc s) with
    | some (y, elt, tg, iter, ifs, scope) => decide (c.N[i]? = some y) && mLc c y elt tg iter ifs scope e.body
    | none => false
  | .par i j a b, s => match coolO c (stPar s) with
    | some (x, y, ea, eb) => decide (c.N[i]? = some x) && decide (c.N[j]? = some y) && decide (i ≠ j) && c.isF && c.lcl x && c.lcl y && decide (x ≠ y) && plainX ea && plainX eb && !(foldedForSure 8 ea && foldedForSure 8 eb) && !(constantsAlone 8 ea && constantsAlone 8 eb) && mE c a ea && mE c b eb
    | none => false
  | .unp is e, s => match coolO c (stUnp s) with
    | some (es, x) => mVs c is es && notComp x && ((asTup x).isNone || (celTwo c es || foldTwo x)) && mE c e x
    | none => false
  | .sto o i e, s => match stSto s with
    | some (eo, ei, x) => plainX ei && mE c o eo && mE c i ei && mE c e x
    | none => false
  | .aug i o e, s => match stAug s with
    | some (y, op, x) => c.loc i y && augM o op && mE c e x
    | none => false
  | .augL i e, s => match stAug s with
    | some (y, op, x) => match op with
      | .Add => c.loc i y && mE c e x
      | _ => false
    | none => false
  | .exp e, s => match stExp s with
    | some x => notComp x && mE c e x
    | none => false
  | .ret e, s => match stRet s with
    | some x => mE c e x
    | none => false
  | .retN, s => stRetN s
  | .ite t a b, s => match stIf s with
    | some (x, as, bs) => mE c t x && mSs c a as && mSs c b bs
    | none => false
  | .whl t b, s => match coolO c (stWhl s) with
    | some (x, bs) => mE c t x && mSs c b bs
    | none => false
  | .for_ t it b, s => match coolO c (stFor s) with
    | some (tg, x, bs) => mT c t tg && mI c it tg x && plainX x && mSs c b bs
    | none => false
  | .pass, s => stPass s
  | .brk, s => stBrk s
  | .cnt, s => stCnt s
  | .gc _ b, s => mS c b s
  | .asgC i f es, s => match coolO c (stAsg s) with
    | some (y, x) => c.loc i y && mE c (.call f es) x
    | none => false
  | .expC f es, s => match coolO c (stExp s) with
    | some x => mE c (.call f es) x
    | none => false
  | .retC f es, s => match coolO c (stRet s) with
    | some x => mE c (.call f es) x
    | none => false
  | .raise_ k, s => match coolO c (stRaise s) with
    | some y => decide (y = k) && decide (k ∈ c.xs) && c.glb k
    | none => false
  | .try_ b k yes no su, s => match coolO c (stTry s) with
    | some (body, y, suite) => decide (y = k) && c.xn k && c.glb k && mSs c b body && mSs c.heat su suite && (yes.all fun x => decide ((x, k, true) ∈ c.xm.m)) && (no.all fun x => decide ((x, k, false) ∈ c.xm.m))
    | none => false
  | .tryAs b k yes no i su, s => match coolO c (stTryAs s) with
    | some (body, y, n, suite) => decide (y = k) && c.xn k && c.glb k && decide (c.N[i]? = some n) && c.lcl n && mSs c b body && mSs c.heat su suite && (yes.all fun x => decide ((x, k, true) ∈ c.xm.m)) && (no.all fun x => decide ((x, k, false) ∈ c.xm.m))
    | none => false
  | .tryAP b k yes no i i1 j1 a1 b1 su, s => match coolO c (stTryAs s) with
    | some (body, y, n, st :: sts) => decide (y = k) && c.xn k && c.glb k && decide (c.N[i]? = some n) && c.lcl n && mSs c b body && parB c i1 j1 a1 b1 st && mSs c.heat su sts && (yes.all fun x => decide ((x, k, true) ∈ c.xm.m)) && (no.all fun x => decide ((x, k, false) ∈ c.xm.m))
    | _ => false
  | .raiseE k e, s => match coolO c (stRaiseE s) with
    | some (y, x) => decide (y = k) && decide (k ∈ c.xs) && c.glb k && plainX x && mE c e x
    | none => false
  | .raiseF k f e, s => match coolO c (stRaiseE s) with
    | some (y, x) => decide (y = k) && decide ((k, f) ∈ c.xg) && decide (("super" : Str) ∈ c.bs) && c.glb k && plainX x && mE c e x
    | none => false
  | .bad, _ => true
def mSs (c : Cs) : Ss → List Stmt → Bool
  | .nil, [] => true
  | .cons s ss, st :: sts => mS c s st && mSs c ss sts
  | _, _ => false
end
structure OkS (c : Cs) (F : Fns) (G : List D) (X : Cx) (W : WX) : Prop extends Ok c F G X where
  pass : c.hot = false → PassesOwn (model X.prog X.w) X.A X.env X.xe
  takes : c.hot = false → L2N.Takes X W
  stk : X.stack = X.env :: X.outer
  frm : X.env.frame = some X.env.locals
section
variable {c : Cs} {F : Fns} {G : List D} {X : Cx} {W : WX}
theorem lcl_ok (o : Ok c F G X) {x : Str} (h : c.lcl x = true) : X.env.scope.names.lookup x = some .local := by rw [o.sc]; exact of_decide_eq_true h
theorem isF_ok (o : Ok c F G X) (h : c.isF = true) : X.env.scope.kind = .function := by rw [o.sc]; exact of_decide_eq_true h
theorem ss_lc {i : Nat} {y : Str} {py pos sp : Pos} {elt tg iter : Expr} {ifs : List Expr} {scope : Scope} (o : Ok c F G X) (hc0 : c.hot = false) : ∀ (e : E) {v' : Env → Hh → R D}, decide (c.N[i]? = some y) = true → mLc c y elt tg iter ifs scope e = true → (py.line == pos.line) = true →
    (∀ {σ : L2.St} {H : Hp} {Q : VK}, tG X.K (rD X.K) v' σ H Q → tF X.K (evE F G e).v σ H Q) →
    PS X (.Assign [.Name y py] (.ListComp elt [⟨tg, iter, ifs, 0⟩] scope pos) sp) (tS (kw X W) fun ρ h => (v' ρ h).then_ fun x h1 => .nxt (ρ.set i (some x)) h1)
  | .lc t it d e, v', hn, h, hl, hv => by
    simp only [mLc, Bool.and_eq_true, Bool.not_eq_true'] at h
    (obtain ⟨⟨⟨⟨⟨⟨⟨⟨h1, h2⟩, h3⟩, h4⟩, h5⟩, h6⟩, h7⟩, h8⟩, h9⟩ := h)
    refine ss_asgLc (pc := evE F G d) (p := evE F G e) (o.calm hc0) o.nd (by rw [o.hN]; exact of_decide_eq_true hn) (lcl_ok o h8) (isF_ok o h7) hl h9 (sI it o _ _ h2) (blkOk_by (by rw [o.hN, o.sc]; exact h1)) (own_snd t) (fun s H C cl fp => st_ok o.blk hc0 h4) (fun s H C cl fp => ?_) (fun s H C cl fp => (sE e o.blk _ h5).v) (plain_fold h3 _) hv
    split at h6
    · cases d with
      | miss => exact ⟨fun pins s σ H Q I ⟨ρ, h, J, re, rh, q⟩ => pts_nil.run pins s σ H Q I (q J H true Ext.refl rh rfl)⟩
      | _ => cases h6
    · exact pts_one (sE d o.blk _ h6).t
    · cases h6
  | .var _, _, _, h, _, _ => by cases h
  | .con _, _, _, h, _, _ => by cases h
  | .glo _, _, _, h, _, _ => by cases h
  | .miss, _, _, h, _, _ => by cases h
  | .tup _, _, _, h, _, _ => by cases h
  | .ftup _, _, _, h, _, _ => by cases h
  | .lst _, _, _, h, _, _ => by cases h
  | .new _, _, _, h, _, _ => by cases h
  | .dic0, _, _, h, _, _ => by cases h
  | .bin _ _ _, _, _, h, _, _ => by cases h
  | .neg _, _, _, h, _, _ => by cases h
  | .cmp _ _ _, _, _, h, _, _ => by cases h
  | .chain _ _ _ _ _, _, _, h, _, _ => by cases h
  | .and _ _, _, _, h, _, _ => by cases h
  | .or _ _, _, _, h, _, _ => by cases h
  | .not _, _, _, h, _, _ => by cases h
  | .ite _ _ _, _, _, h, _, _ => by cases h
  | .idx _ _, _, _, h, _, _ => by cases h
  | .slc _ _ _, _, _, h, _, _ => by cases h
  | .call _ _, _, _, h, _, _ => by cases h
  | .callK _ _ _ _, _, _, h, _, _ => by cases h
  | .isi _ _, _, _, h, _, _ => by cases h
  | .tenum _, _, _, h, _, _ => by cases h
  | .sset _, _, _, h, _, _ => by cases h
  | .dcl _ _ _ _ _, _, _, h, _, _ => by cases h
  | .trng _, _, _, h, _, _ => by cases h
  | .isi2 _, _, _, h, _, _ => by cases h
  | .isx _ _ _ _, _, _, h, _, _ => by cases h
  | .fld _ _ _, _, _, h, _, _ => by cases h
  | .mkf _ _ _ _, _, _, h, _, _ => by cases h
  | .isv _ _, _, _, h, _, _ => by cases h
  | .bad, _, _, h, _, _ => by cases h
  | .mth _ _ _, _, _, h, _, _ => by cases h
  | .bf _ _, _, _, h, _, _ => by cases h
theorem lc_lst2 : ∀ (e : E) {y : Str} {elt tg iter : Expr} {ifs : List Expr} {scope : Scope}, mLc c y elt tg iter ifs scope e = true → ∀ ρ h d h', (evE F G e).v ρ h = .ok d h' → ∃ ds, d = .lst ds := by
  intro e y elt tg iter ifs scope h
  cases e with
  | lc t it d e => exact fun ρ h d h' ev => lc_lst _ _ _ _ ev
  | _ => cases h
theorem tCX_mono {F : Fns} {f n : Nat} {l : Env → Hh → R (List D)} {σ : L2.St} {H : Hp} {Q Q' : VK} (t : tCX X W F f n l σ H Q) (m : ∀ v H1, Q v H1 → Q' v H1) : tCX X W F f n l σ H Q' :=
  tG.mono t fun vs H1 ⟨J1, h1, ds, rh1, rs, hl, p⟩ => ⟨J1, h1, ds, rh1, rs, hl, by
    cases e : F f ds h1 with
    | ok d h2 => rw [e] at p; exact fun J2 H2 b e2 rh2 rd => m _ _ (p J2 H2 b e2 rh2 rd)
    | err x h2 => rw [e] at p; exact p
    | bad => rw [e] at p; exact p⟩
theorem mCall_ok {f : Nat} {es : Es} {x : Expr} (h : mE c (.call f es) x = true) : ∃ fn y xs p q, x = .Call (.Name y p) xs [] q ∧ c.T[f]? = some fn ∧ fn.name = y ∧ c.glb y = true ∧ plainXs xs = true ∧ mEs c es xs = true ∧ xs.length = fn.P.length := by
  simp only [mE] at h
  split at h
  · rename_i y xs hy
    obtain ⟨p, q, rfl⟩ := asCall_eq hy
    split at h
    · rename_i fn hf
      (simp only [Bool.and_eq_true, decide_eq_true_eq] at h)
      obtain ⟨⟨⟨⟨⟨_, h1⟩, h2⟩, h3⟩, h4⟩, h5⟩ := h
      exact ⟨fn, y, xs, p, q, rfl, hf, h1, h3, h4, h5, h2.symm⟩
    · cases h
  · cases h
theorem heat_ok {a : Addr} {pn : List (Addr × Obj)} (o : OkS c F G X W) : OkS c.heat F G (X.suite a pn) W where
  hN := o.hN
  nd := o.nd
  sc := o.sc
  fn := o.fn
  calm := fun h => nomatch (show true = false from h)
  call := fun h => nomatch (show true = false from h)
  quiet := let ⟨k, r, g, t⟩ := o.quiet.ok; ⟨k, ⟨r.dp, r.un⟩, g, t⟩
  blt := o.blt
  glo := o.glo
  exc := o.exc
  exm := o.exm
  gate := o.gate
  pass := fun h => nomatch (show true = false from h)
  takes := fun h => nomatch (show true = false from h)
  stk := o.stk
  frm := o.frm
theorem PostS.ext' {κ : KW} {J J' : Jn} {H H' : Hp} {h h' : Hh} {D : Ends} {r : RS} (rh : RH κ.K J h H) (rh' : RH κ.K J' h' H') (e : Ext J H J' H') (p : PostS κ J H r D) : PostS κ J' H' r D := PostS.ext rh rh' e p
/-- the clause's name is set, the exception tracked, the suite runs, the name goes -/
theorem caught_post {κ : KW} {J J' : Jn} {H H' : Hp} {h h' : Hh} {D : Ends} {ρ' : Env} {σ' : L2.St} {x : Xc} {d : Option Addr} {a : Addr} {i : Nat} {f : Env → Hh → RS} (rh : RH κ.K J h H) (rh1 : RH κ.K J' h' H') (re1 : RE κ.K J' H' ρ' σ') (e1 : Ext J H J' H') (na : H' a = none) (rd : RXd κ.K J' H' x d)
    (q : PostS κ J H (dropS i (f (ρ'.set i (some x.d)) h')) D) : tH κ a f ⟨fun s u => D.nx (s.set i none) u, D.rt, fun s u => D.bk (s.set i none) u, fun s u => D.ct (s.set i none) u⟩ (σ'.set i (some (.ref a))) (upd H' a (ExD (.ref (He.ga κ.K x.cls)) d a)) := by
  have lay := Ext.laid (J := J') (o := ExD (.ref (He.ga κ.K x.cls)) d a) na
  have rx : RD κ.K J' (upd H' a (ExD (.ref (He.ga κ.K x.cls)) d a)) x.d (.ref a) := by
    obtain ⟨k, fl⟩ := x
    cases fl with
    | none =>
      cases (show d = none from rd)
      exact .exc (rh1.notin na) (rh1.notz na) upd_same
    | some p =>
      obtain ⟨b, v, rfl, n1, n2, eb, r⟩ := (show ∃ b v, d = some b ∧ b ∉ J'.l ∧ b ∉ J'.z ∧ H' b = some (.xd [(p.1, v)]) ∧ RD κ.K J' H' p.2 v from rd)
      exact .exf (rh1.notin na) (rh1.notz na) upd_same n1 n2 (lay.keep _ _ n1 eb) (r.ext lay)
  have rh2 := rh1.laid (o := ExD (.ref (He.ga κ.K x.cls)) d a) na
  refine ⟨ρ'.set i (some x.d), h', J', (re1.ext lay).set i rx, rh2, ⟨rh1.notin na, _, _, upd_same⟩, ?_⟩
  have q2 := PostS.ext' rh rh2 (e1.trans rh rh1 lay) q
  cases er : f (ρ'.set i (some x.d)) h' with
  | bad => rw [er] at q2; exact q2
  | nxt ρ2 h2 => rw [er] at q2; exact fun J2 H2 s e2 re2 rh2 => q2 J2 H2 _ e2 (re2.drop i) rh2
  | brk ρ2 h2 => rw [er] at q2; exact fun J2 H2 s e2 re2 rh2 => q2 J2 H2 _ e2 (re2.drop i) rh2
  | cnt ρ2 h2 => rw [er] at q2; exact fun J2 H2 s e2 re2 rh2 => q2 J2 H2 _ e2 (re2.drop i) rh2
  | ret d2 h2 => rw [er] at q2; exact q2
  | err ρ2 x2 h2 => rw [er] at q2; exact q2
theorem par_hot {z : Addr} {pn : List (Addr × Obj)} {c : Cs} {X : Cx} {W : WX} (o : OkS c F G X W) {i j : Nat} (a b : E) {st : Stmt} (hE : ∀ (e : E) (x : Expr), mE c.heat e x = true → SE (X.suite z pn) x (evE F G e)) (h : parB c i j a b st = true) :
    PS (X.suite z pn) st (tH (kw X W) z (evS F G (.par i j a b))) := by
  unfold parB at h
  split at h
  · rename_i nx ny ea eb hy
    obtain ⟨px, py, k, tp, k2, vp, q, rfl, hl⟩ := stPar_eq hy
    simp only [Bool.and_eq_true, decide_eq_true_eq, Bool.not_eq_true'] at h
    obtain ⟨⟨⟨⟨⟨⟨⟨⟨⟨⟨⟨⟨h1, h2⟩, h3⟩, h4⟩, h5⟩, h6⟩, h7⟩, h8⟩, h9⟩, h10⟩, h11⟩, h12⟩, h13⟩ := h
    have hN : X.N = c.N := o.hN
    exact ss_parH (X := X.suite z pn) rfl o.nd (by show X.N[i]? = _; rw [hN]; exact h1) (by show X.N[j]? = _; rw [hN]; exact h2) h3 (isF_ok (X := X) o.toOk h4) (lcl_ok (X := X) o.toOk h5) (lcl_ok (X := X) o.toOk h6) h7 hl h8 h9 h10 h11 (hE a _ h12) (hE b _ h13)
  · cases h
theorem ss_consH {X : Cx} {W : WX} {z : Addr} {st : Stmt} {sts : List Stmt} {f g : Env → Hh → RS} (h1 : PS X st (tH (kw X W) z f)) (h2 : PSs X sts (tS (kw X W) g)) : PSs X (st :: sts) (tH (kw X W) z fun ρ h => (f ρ h).then_ g) :=
  (pss_cons h1 h2).imp fun D σ H ⟨ρ, h, J, re, rh, n, q⟩ => ⟨ρ, h, J, re, rh, n, q.seq rh⟩
mutual
theorem sS : ∀ (t : S) {c : Cs} {X : Cx} {W : WX} (o : OkS c F G X W) (x : Stmt), mS c t x = true → PS X x (tS (kw X W) (evS F G t))
  | .asg i e, c, X, W, o, x, h => by
    simp only [mS] at h
    split at h
    · rename_i y z hy
      obtain ⟨p, q, rfl⟩ := stAsg_eq hy
      (simp only [Bool.and_eq_true] at h)
      obtain ⟨h1, h2, h3⟩ := loc_ok o.toOk h.1.1
      exact ss_asg o.nd h1 h2 h3 (fun q => by rw [o.sc]; exact of_decide_eq_true q) h.1.2 (sE e o.toOk _ h.2)
    · cases h
  | .asgLc i e, c, X, W, o, x, h => by
    simp only [mS] at h
    split at h
    · rename_i y elt tg iter ifs scope hy
      obtain ⟨hc0, hy⟩ := coolO_eq hy
      obtain ⟨py, pos, q, rfl, hl⟩ := stAsgLc_eq hy
      (simp only [Bool.and_eq_true] at h)
      cases e with
      | new e => exact ss_lc o.toOk hc0 e h.1 h.2 hl fun t => tF_new t
      | lc t it d e => exact ss_lc o.toOk hc0 (.lc t it d e) h.1 h.2 hl fun t => tF_of (lc_lst2 _ h.2) t
      | _ => cases h.2
    · cases h
  | .par i j a b, c, X, W, o, x, h => by
    simp only [mS] at h
    split at h
    · rename_i x y ea eb hy
      obtain ⟨hc0, hy⟩ := coolO_eq hy
      obtain ⟨px, py, k, tp, k2, vp, q, rfl, hl⟩ := stPar_eq hy
      simp only [Bool.and_eq_true, decide_eq_true_eq, Bool.not_eq_true'] at h
      obtain ⟨⟨⟨⟨⟨⟨⟨⟨⟨⟨⟨⟨h1, h2⟩, h3⟩, h4⟩, h5⟩, h6⟩, h7⟩, h8⟩, h9⟩, h10⟩, h11⟩, h12⟩, h13⟩ := h
      exact ss_par (o.calm hc0) o.nd (by rw [o.hN]; exact h1) (by rw [o.hN]; exact h2) h3 (isF_ok o.toOk h4) (lcl_ok o.toOk h5) (lcl_ok o.toOk h6) h7 hl h8 h9 h10 h11 (sE a o.toOk _ h12) (sE b o.toOk _ h13)
    · cases h
  | .unp is e, c, X, W, o, x, h => by
    simp only [mS] at h
    split at h
    · rename_i es z hy
      obtain ⟨hc0, hy⟩ := coolO_eq hy
      obtain ⟨k, tp, q, rfl⟩ := stUnp_eq hy
      simp only [Bool.and_eq_true, Bool.or_eq_true, Option.isNone_iff_eq_none] at h
      exact ss_unp (o.calm hc0) (svs_ok o.toOk h.1.1.1) h.1.1.2 (h.1.2.elim (fun t => swapped_no t) fun t => t.elim (fun t => celTwo_ok o.sc t) fun t => swapped_fold t) (sE e o.toOk _ h.2)
    · cases h
  | .sto a i e, c, X, W, o, x, h => by
    simp only [mS] at h
    split at h
    · rename_i ea ei z hy
      obtain ⟨p, q, rfl⟩ := stSto_eq hy
      (simp only [Bool.and_eq_true] at h)
      exact ss_sto o.units h.1.1.1 (sE a o.toOk _ h.1.1.2) (sE i o.toOk _ h.1.2) (sE e o.toOk _ h.2)
    · cases h
  | .aug i op e, c, X, W, o, x, h => by
    simp only [mS] at h
    split at h
    · rename_i y p z hy
      obtain ⟨q, r, rfl⟩ := stAug_eq hy
      (simp only [Bool.and_eq_true] at h)
      obtain ⟨h1, h2, h3⟩ := loc_ok o.toOk h.1.1
      exact ss_aug o.nd h1 h2 h3 h.1.2 (sE e o.toOk _ h.2)
    · cases h
  | .augL i e, c, X, W, o, x, h => by
    simp only [mS] at h
    split at h
    · rename_i y p z hy
      obtain ⟨q, r, rfl⟩ := stAug_eq hy
      split at h
      · (simp only [Bool.and_eq_true] at h)
        obtain ⟨h1, h2, h3⟩ := loc_ok o.toOk h.1
        exact ss_augL o.nd h1 h2 h3 (sE e o.toOk _ h.2)
      · cases h
    · cases h
  | .exp e, c, X, W, o, x, h => by
    simp only [mS] at h
    split at h
    · rename_i z hy
      obtain ⟨q, rfl⟩ := stExp_eq hy
      (simp only [Bool.and_eq_true] at h)
      exact ss_exp h.1 (sE e o.toOk _ h.2)
    · cases h
  | .ret e, c, X, W, o, x, h => by
    simp only [mS] at h
    split at h
    · rename_i z hy
      obtain ⟨q, rfl⟩ := stRet_eq hy
      exact ss_ret (sE e o.toOk _ h)
    · cases h
  | .retN, c, X, W, o, x, h => by obtain ⟨q, rfl⟩ := stRetN_eq h; exact ss_retN
  | .ite t a b, c, X, W, o, x, h => by
    simp only [mS] at h
    split at h
    · rename_i z as bs hy
      obtain ⟨q, rfl⟩ := stIf_eq hy
      (simp only [Bool.and_eq_true] at h)
      exact ss_if (sE t o.toOk _ h.1.1) (sSs a o _ h.1.2) (sSs b o _ h.2)
    · cases h
  | .whl t b, c, X, W, o, x, h => by
    simp only [mS] at h
    split at h
    · rename_i z bs hy
      obtain ⟨hc0, hy⟩ := coolO_eq hy
      obtain ⟨q, rfl⟩ := stWhl_eq hy
      (simp only [Bool.and_eq_true] at h)
      exact ss_whl (o.pass hc0) (sE t o.toOk _ h.1) (sSs b o _ h.2)
    · cases h
  | .for_ t it b, c, X, W, o, x, h => by
    simp only [mS] at h
    split at h
    · rename_i tg z bs hy
      obtain ⟨hc0, hy⟩ := coolO_eq hy
      obtain ⟨q, rfl⟩ := stFor_eq hy
      (simp only [Bool.and_eq_true] at h)
      exact ss_for (o.pass hc0) (o.calm hc0) (sI it o.toOk _ _ h.1.1.2) (st_ok o.toOk hc0 h.1.1.1) (sSs b o _ h.2) h.1.2
    · cases h
  | .pass, c, X, W, o, x, h => by obtain ⟨q, rfl⟩ := stPass_eq h; exact ss_pass
  | .brk, c, X, W, o, x, h => by obtain ⟨q, rfl⟩ := stBrk_eq h; exact ss_brk
  | .cnt, c, X, W, o, x, h => by obtain ⟨q, rfl⟩ := stCnt_eq h; exact ss_cnt
  | .gc ks b, c, X, W, o, x, h => (sS b o x h).imp fun D σ H ⟨ρ, h, J, re, rh, q⟩ => ⟨ρ, h, J, re, rh, q.gc rh⟩
  | .asgC i f es, c, X, W, o, x, h => by
    simp only [mS] at h
    split at h
    · rename_i y z hy
      obtain ⟨hc0, hy⟩ := coolO_eq hy
      obtain ⟨p, q, rfl⟩ := stAsg_eq hy
      (simp only [Bool.and_eq_true] at h)
      obtain ⟨h1, h2, h3⟩ := loc_ok o.toOk h.1
      obtain ⟨fn, y2, xs, p1, p2, rfl, hf, hn, hg, hp, hm, hl⟩ := mCall_ok h.2
      refine (ps_set (e := .Call (.Name y2 p1) xs [] p2) o.nd h1 h2 (pe_callX o.toOk hc0 (o.takes hc0) hf hn hg hp (mEs_nil hm) (sEs es o.toOk _ hm)) (by rfl) h3).imp fun D σ H ⟨ρ, h, J, re, rh, q⟩ => ?_
      refine tCX_mono (callX_do (g := fun x ρ h2 => .nxt (ρ.set i (some x)) h2) (fun ρ h0 ds h' e => by rw [es_len es _ _ _ _ e, mEs_len hm, hl]) ρ h J re rh q) fun v H1 ⟨d, h1, J1, re1, rh1, rd, q1⟩ => ?_
      exact q1 J1 H1 _ Ext.refl (re1.set i rd) rh1
    · cases h
  | .expC f es, c, X, W, o, x, h => by
    simp only [mS] at h
    split at h
    · rename_i z hy
      obtain ⟨hc0, hy⟩ := coolO_eq hy
      obtain ⟨q, rfl⟩ := stExp_eq hy
      obtain ⟨fn, y2, xs, p1, p2, rfl, hf, hn, hg, hp, hm, hl⟩ := mCall_ok h
      refine (ps_expr (e := .Call (.Name y2 p1) xs [] p2) (pe_callX o.toOk hc0 (o.takes hc0) hf hn hg hp (mEs_nil hm) (sEs es o.toOk _ hm)) (by rfl)).imp fun D σ H ⟨ρ, h, J, re, rh, q⟩ => ?_
      refine tCX_mono (callX_do (g := fun _ ρ h2 => .nxt ρ h2) (fun ρ h0 ds h' e => by rw [es_len es _ _ _ _ e, mEs_len hm, hl]) ρ h J re rh q) fun v H1 ⟨d, h1, J1, re1, rh1, rd, q1⟩ => ?_
      exact q1 J1 H1 _ Ext.refl re1 rh1
    · cases h
  | .retC f es, c, X, W, o, x, h => by
    simp only [mS] at h
    split at h
    · rename_i z hy
      obtain ⟨hc0, hy⟩ := coolO_eq hy
      obtain ⟨q, rfl⟩ := stRet_eq hy
      obtain ⟨fn, y2, xs, p1, p2, rfl, hf, hn, hg, hp, hm, hl⟩ := mCall_ok h
      refine (ps_ret (e := .Call (.Name y2 p1) xs [] p2) (pe_callX o.toOk hc0 (o.takes hc0) hf hn hg hp (mEs_nil hm) (sEs es o.toOk _ hm))).imp fun D σ H ⟨ρ, h, J, re, rh, q⟩ => ?_
      refine tCX_mono (callX_do (g := fun x ρ h2 => .ret x h2) (fun ρ h0 ds h' e => by rw [es_len es _ _ _ _ e, mEs_len hm, hl]) ρ h J re rh q) fun v H1 ⟨d, h1, J1, re1, rh1, rd, q1⟩ => ?_
      exact q1 J1 H1 _ Ext.refl rh1 rd
    · cases h
  | .raise_ k, c, X, W, o, x, h => by
    simp only [mS] at h
    split at h
    · rename_i y hy
      obtain ⟨hc0, hy⟩ := coolO_eq hy
      obtain ⟨p, m, j, p2, p3, p4, rfl⟩ := stRaise_eq hy
      (simp only [Bool.and_eq_true, decide_eq_true_eq] at h)
      obtain ⟨⟨rfl, hk⟩, hg⟩ := h
      obtain ⟨C, hm, hx, hkp, hr⟩ := o.exc _ hk
      obtain ⟨g1, g2⟩ := glb_ok o.toOk hg
      exact (L2N.ps_raise (o.calm hc0) (o.takes hc0) (L2N.pmk_own PySem.F.excBase_ValueError hx hm hkp hr g1 g2)).imp fun D σ H ⟨ρ, h, J, re, rh, q⟩ => q J H σ _ _ Ext.refl re rh ⟨⟨C, rfl, hm⟩, (rfl : RXd X.K J H ⟨_, none⟩ none)⟩
    · cases h
  | .try_ b k yes no s, c, X, W, o, x, h => by
    simp only [mS] at h
    split at h
    · rename_i body y suite hy
      obtain ⟨hc0, hy⟩ := coolO_eq hy
      obtain ⟨p, b0, sr, p2, p3, rfl, rfl⟩ := stTry_eq hy
      simp only [Bool.and_eq_true, decide_eq_true_eq, List.all_eq_true] at h
      obtain ⟨⟨⟨⟨⟨⟨rfl, hk⟩, hg⟩, hb⟩, hs⟩, hyes⟩, hno⟩ := h
      obtain ⟨C, hm⟩ := xn_ok o.toOk hk
      obtain ⟨g1, g2⟩ := glb_ok o.toOk hg
      refine (ps_try_plain (c := .ref C) (Wo := W) (tb := fun W' => tS ⟨X.K, X.mg, W'⟩ (evSs F G b)) (t0 := tS ⟨X.K, X.mg, W⟩ (evSs F G s)) o.stk o.frm ⟨g1, g2, .inl hm⟩ (o.takes hc0) (fun W' pn xe tk ps => ?_) (fun a pn => ?_)).imp fun D σ H ⟨ρ, h, J, re, rh, q⟩ => ⟨ρ, h, J, re, rh, ?_⟩
      · exact sSs b (X := X.tr pn xe) (W := W') ⟨⟨o.hN, o.nd, o.sc, o.fn, o.calm, fun h => ⟨(o.call h).ok⟩, ⟨o.quiet.ok⟩, o.blt, o.glo, o.exc, o.exm, o.gate⟩, fun _ => ps, fun _ => tk, o.stk, o.frm⟩ body hb
      · exact sSs s (heat_ok o) (b0 :: sr) hs
      · have q : PostS (kw X W) J H (catchS yes no (evSs F G s) (evSs F G b ρ h)) D := q
        cases er : evSs F G b ρ h with
        | err ρ' x h' =>
          rw [er] at q
          simp only [catchS] at q
          by_cases hy1 : x.cls ∈ yes
          · rw [if_pos hy1] at q
            intro J' H' σ' cls d e1 re1 rh1 rx
            obtain ⟨⟨C1, rfl, m1⟩, _⟩ := rx
            have m1 : X.mg x.cls = some (.ref C1) := m1
            obtain ⟨C2, C3, m2, m3, ex⟩ := o.exm.m _ _ _ (hyes _ hy1)
            rw [m1] at m2; rw [hm] at m3
            cases m2; cases m3
            exact ⟨true, ex, (fun z => nomatch z), fun _ => ⟨ρ', h', J', re1, rh1, PostS.ext' rh rh1 e1 q⟩⟩
          · rw [if_neg hy1] at q
            by_cases hy2 : x.cls ∈ no
            · rw [if_pos hy2] at q
              intro J' H' σ' cls d e1 re1 rh1 rx
              have w := q J' H' σ' cls d e1 re1 rh1 rx
              obtain ⟨⟨C1, rfl, m1⟩, _⟩ := rx
              have m1 : X.mg x.cls = some (.ref C1) := m1
              obtain ⟨C2, C3, m2, m3, ex⟩ := o.exm.m _ _ _ (hno _ hy2)
              rw [m1] at m2; rw [hm] at m3
              cases m2; cases m3
              exact ⟨false, ex, (fun _ => w), fun z => nomatch z⟩
            · rw [if_neg hy2] at q; exact q.elim
        | nxt _ _ => rw [er] at q; exact q
        | brk _ _ => rw [er] at q; exact q
        | cnt _ _ => rw [er] at q; exact q
        | ret _ _ => rw [er] at q; exact q
        | bad => rw [er] at q; exact q
    · cases h
  | .tryAs b k yes no i s, c, X, W, o, x, h => by
    simp only [mS] at h
    split at h
    · rename_i body y n suite hy
      obtain ⟨hc0, hy⟩ := coolO_eq hy
      obtain ⟨p, b0, sr, p2, p3, rfl, rfl⟩ := stTryAs_eq hy
      (simp only [Bool.and_eq_true, decide_eq_true_eq, List.all_eq_true] at h)
      (obtain ⟨⟨⟨⟨⟨⟨⟨⟨rfl, hk⟩, hg⟩, hi⟩, hl⟩, hb⟩, hs⟩, hyes⟩, hno⟩ := h)
      obtain ⟨C, hm⟩ := xn_ok o.toOk hk
      obtain ⟨g1, g2⟩ := glb_ok o.toOk hg
      have hn : X.env.kindOf n = some .local := lcl_ok o.toOk hl
      refine (ps_try_keep (c := .ref C) (Wo := W) (tb := fun W' => tS ⟨X.K, X.mg, W'⟩ (evSs F G b)) (ts := fun a => tH ⟨X.K, X.mg, W⟩ a (evSs F G s)) o.stk o.frm o.nd (by rw [o.hN]; exact hi) hn ⟨g1, g2, .inl hm⟩ (o.takes hc0) (fun W' pn xe tk ps => ?_) (fun a pn => (sSs s (heat_ok o) (b0 :: sr) hs).imp fun _ _ _ t => t.drop)).imp fun D σ H ⟨ρ, h, J, re, rh, q⟩ => ⟨ρ, h, J, re, rh, ?_⟩
      · exact sSs b (X := X.tr pn xe) (W := W') ⟨⟨o.hN, o.nd, o.sc, o.fn, o.calm, fun h => ⟨(o.call h).ok⟩, ⟨o.quiet.ok⟩, o.blt, o.glo, o.exc, o.exm, o.gate⟩, fun _ => ps, fun _ => tk, o.stk, o.frm⟩ body hb
      · have q : PostS (kw X W) J H (catchAs yes no i (evSs F G s) (evSs F G b ρ h)) D := q
        cases er : evSs F G b ρ h with
        | err ρ' x h' =>
          rw [er] at q
          simp only [catchAs] at q
          intro J' H' σ' cls d e1 re1 rh1 rx
          by_cases hy1 : x.cls ∈ yes
          · rw [if_pos hy1] at q
            obtain ⟨⟨C1, rfl, m1⟩, rd⟩ := rx
            have m1 : X.mg x.cls = some (.ref C1) := m1
            obtain ⟨C2, C3, m2, m3, ex⟩ := o.exm.m _ _ _ (hyes _ hy1)
            have eg := o.exm.g _ _ _ (hyes _ hy1)
            rw [m1] at m2; rw [hm] at m3; rw [m1] at eg
            cases m2; cases m3; cases eg
            exact ⟨true, ex, (fun z => nomatch z), fun _ a na => caught_post rh rh1 re1 e1 na rd q⟩
          · rw [if_neg hy1] at q
            by_cases hy2 : x.cls ∈ no
            · rw [if_pos hy2] at q
              have w := q J' H' σ' cls d e1 re1 rh1 rx
              obtain ⟨⟨C1, rfl, m1⟩, _⟩ := rx
              have m1 : X.mg x.cls = some (.ref C1) := m1
              obtain ⟨C2, C3, m2, m3, ex⟩ := o.exm.m _ _ _ (hno _ hy2)
              rw [m1] at m2; rw [hm] at m3
              cases m2; cases m3
              exact ⟨false, ex, (fun _ => w), fun z => nomatch z⟩
            · rw [if_neg hy2] at q; exact q.elim
        | nxt _ _ => rw [er] at q; exact q
        | brk _ _ => rw [er] at q; exact q
        | cnt _ _ => rw [er] at q; exact q
        | ret _ _ => rw [er] at q; exact q
        | bad => rw [er] at q; exact q
    · cases h
  | .tryAP b k yes no i i1 j1 a1 b1 s, c, X, W, o, x, h => by
    simp only [mS] at h
    split at h
    · rename_i body y n st sts hy
      obtain ⟨hc0, hy⟩ := coolO_eq hy
      obtain ⟨p, b0, sr, p2, p3, es, rfl⟩ := stTryAs_eq hy
      cases es
      (simp only [Bool.and_eq_true, decide_eq_true_eq, List.all_eq_true] at h)
      (obtain ⟨⟨⟨⟨⟨⟨⟨⟨⟨rfl, hk⟩, hg⟩, hi⟩, hl⟩, hb⟩, hpar⟩, hs⟩, hyes⟩, hno⟩ := h)
      obtain ⟨C, hm⟩ := xn_ok o.toOk hk
      obtain ⟨g1, g2⟩ := glb_ok o.toOk hg
      have hn : X.env.kindOf n = some .local := lcl_ok o.toOk hl
      refine (ps_try_keep (c := .ref C) (Wo := W) (tb := fun W' => tS ⟨X.K, X.mg, W'⟩ (evSs F G b)) (ts := fun a => tH ⟨X.K, X.mg, W⟩ a (fun ρ h => (evS F G (.par i1 j1 a1 b1) ρ h).then_ (evSs F G s))) o.stk o.frm o.nd (by rw [o.hN]; exact hi) hn ⟨g1, g2, .inl hm⟩ (o.takes hc0) (fun W' pn xe tk ps => ?_) (fun a pn => ss_consH (par_hot o a1 b1 (fun e x hx => sE e (heat_ok o).toOk x hx) hpar) (sSs s (heat_ok o) _ hs))).imp fun D σ H ⟨ρ, h, J, re, rh, q⟩ => ⟨ρ, h, J, re, rh, ?_⟩
      · exact sSs b (X := X.tr pn xe) (W := W') ⟨⟨o.hN, o.nd, o.sc, o.fn, o.calm, fun h => ⟨(o.call h).ok⟩, ⟨o.quiet.ok⟩, o.blt, o.glo, o.exc, o.exm, o.gate⟩, fun _ => ps, fun _ => tk, o.stk, o.frm⟩ body hb
      · have q : PostS (kw X W) J H (catchAs yes no i (fun ρ h => (evS F G (.par i1 j1 a1 b1) ρ h).then_ (evSs F G s)) (evSs F G b ρ h)) D := q
        cases er : evSs F G b ρ h with
        | err ρ' x h' =>
          rw [er] at q
          simp only [catchAs] at q
          intro J' H' σ' cls d e1 re1 rh1 rx
          by_cases hy1 : x.cls ∈ yes
          · rw [if_pos hy1] at q
            obtain ⟨⟨C1, rfl, m1⟩, rd⟩ := rx
            have m1 : X.mg x.cls = some (.ref C1) := m1
            obtain ⟨C2, C3, m2, m3, ex⟩ := o.exm.m _ _ _ (hyes _ hy1)
            have eg := o.exm.g _ _ _ (hyes _ hy1)
            rw [m1] at m2; rw [hm] at m3; rw [m1] at eg
            cases m2; cases m3; cases eg
            exact ⟨true, ex, (fun z => nomatch z), fun _ a na => caught_post rh rh1 re1 e1 na rd q⟩
          · rw [if_neg hy1] at q
            by_cases hy2 : x.cls ∈ no
            · rw [if_pos hy2] at q
              have w := q J' H' σ' cls d e1 re1 rh1 rx
              obtain ⟨⟨C1, rfl, m1⟩, _⟩ := rx
              have m1 : X.mg x.cls = some (.ref C1) := m1
              obtain ⟨C2, C3, m2, m3, ex⟩ := o.exm.m _ _ _ (hno _ hy2)
              rw [m1] at m2; rw [hm] at m3
              cases m2; cases m3
              exact ⟨false, ex, (fun _ => w), fun z => nomatch z⟩
            · rw [if_neg hy2] at q; exact q.elim
        | nxt _ _ => rw [er] at q; exact q
        | brk _ _ => rw [er] at q; exact q
        | cnt _ _ => rw [er] at q; exact q
        | ret _ _ => rw [er] at q; exact q
        | bad => rw [er] at q; exact q
    · cases h
  | .raiseE k e, c, X, W, o, x, h => by
    simp only [mS] at h
    split at h
    · rename_i y z hy
      obtain ⟨hc0, hy⟩ := coolO_eq hy
      obtain ⟨p, p3, p4, rfl⟩ := stRaiseE_eq hy
      (simp only [Bool.and_eq_true, decide_eq_true_eq] at h)
      obtain ⟨⟨⟨⟨rfl, hk⟩, hg⟩, hp⟩, he⟩ := h
      obtain ⟨C, hm, hx, hkp, hr⟩ := o.exc _ hk
      obtain ⟨g1, g2⟩ := glb_ok o.toOk hg
      refine (L2N.ps_raise (o.calm hc0) (o.takes hc0) (pmk_one PySem.F.excBase_ValueError hx hm hkp hr g1 (sE e o.toOk _ he).v (plain_star hp _ _) g2)).imp fun D σ H ⟨ρ, h, J, re, rh, q⟩ => ?_
      exact (PostS.step (R1 := rD X.K) (f := (evE F G e).v) re rh q).mono fun x H1 ⟨J1, h1, dx, e1, re1, rh1, rx, q1⟩ => q1 J1 H1 σ _ _ Ext.refl re1 rh1 ⟨⟨C, rfl, hm⟩, (rfl : RXd X.K J1 H1 ⟨_, none⟩ none)⟩
    · cases h
  | .raiseF k f e, c, X, W, o, x, h => by
    simp only [mS] at h
    split at h
    · rename_i y z hy
      obtain ⟨hc0, hy⟩ := coolO_eq hy
      obtain ⟨p, p3, p4, rfl⟩ := stRaiseE_eq hy
      (simp only [Bool.and_eq_true, decide_eq_true_eq] at h)
      obtain ⟨⟨⟨⟨⟨rfl, hk⟩, hs⟩, hg⟩, hp⟩, he⟩ := h
      obtain ⟨hm, gt, _, _⟩ := o.gate _ hk
      obtain ⟨g1, g2⟩ := glb_ok o.toOk hg
      obtain ⟨kk, hr, _⟩ := (o.call hc0).ok
      refine (L2N.ps_raise (o.calm hc0) (o.takes hc0) (pmk_gate gt (hr.mono (Nat.zero_le _)) (o.blt _ hs) g1 hm (sE e o.toOk _ he).v (plain_star hp _ _) g2)).imp fun D σ H ⟨ρ, h, J, re, rh, q⟩ => ?_
      refine (PostS.step (R1 := rD X.K) (f := (evE F G e).v) re rh q).mono fun x H1 ⟨J1, h1, dx, e1, re1, rh1, rx, q1⟩ a na => ?_
      exact q1 J1 _ σ _ _ (Ext.laid na) (re1.ext (Ext.laid na)) (rh1.laid na) ⟨⟨_, rfl, hm⟩, ⟨a, x, rfl, rh1.notin na, rh1.notz na, upd_same, rx.ext (Ext.laid na)⟩⟩
    · cases h
  | .bad, c, X, W, o, x, h => ⟨fun pins s σ H D I ⟨ρ, h, J, re, rh, q⟩ => q.elim⟩
theorem sSs : ∀ (t : Ss) {c : Cs} {X : Cx} {W : WX} (o : OkS c F G X W) (xs : List Stmt), mSs c t xs = true → PSs X xs (tS (kw X W) (evSs F G t))
  | .nil, c, X, W, o, [], h => ss_nil
  | .nil, c, X, W, o, _ :: _, h => by cases h
  | .cons _ _, c, X, W, o, [], h => by cases h
  | .cons s ss, c, X, W, o, x :: xs, h => by
    simp only [mSs, Bool.and_eq_true] at h
    exact ss_cons (sS s o _ h.1) (sSs ss o _ h.2)
end
end
end PV
end

section
set_option maxRecDepth 100000
namespace PV
open L2 PySem PySem.Spec PyProof.Rows

/-! ### a def's end -/
section
variable {K : PySem.W.Frag} {J J' : Jn} {H H' : Hp} {h h' : Hh}
theorem frz_rd {n : Nat} (rh : RH K J h H) : ∀ (k : Nat) (d : D) (v : V), RD K J H d v → (d.frz h n k).rlt n = true → RD K (J.cut n) H (d.frz h n k) v
  | 0, d, v, r, e => r.cut e
  | k + 1, d, v, r, e => by
    have i1 := frz_rd rh (n := n) k
    have i2 : ∀ (ds : List D) (vs : List V), RDs K J H ds vs → D.rlts n (ds.map (D.frz h n k)) = true → RDs K (J.cut n) H (ds.map (D.frz h n k)) vs := by
      intro ds
      induction ds with
      | nil => intro vs r e; cases r; exact .nil
      | cons x xs ih =>
        intro vs r e
        cases r with
        | cons rx rr =>
          simp only [List.map_cons, D.rlts, Bool.and_eq_true] at e
          exact .cons (i1 _ _ rx e.1) (ih _ rr e.2)
    cases d with
    | ref i =>
      simp only [D.frz] at e ⊢
      split at e
      · rename_i hi
        rw [if_pos hi]; exact r.cut e
      · rename_i hi
        rw [if_neg hi]
        cases r with
        | @ref _ a q =>
          obtain ⟨o, u, h1, h2, h3⟩ := rh.at q
          rw [h1] at e ⊢
          cases h3 with
          | @lst ds vs z rr =>
            refine .lst (fun hm => ?_) (fun hm => rh.apart a hm (List.mem_of_getElem? q)) h2 z (i2 _ _ rr e)
            obtain ⟨j, hj⟩ := List.mem_iff_getElem?.mp hm
            have hjn : j < n := by
              have := (List.getElem?_eq_some_iff.mp hj).1
              simp only [List.length_take] at this; omega
            have hj' : J.l[j]? = some a := by
              have hj2 : (J.l.take n)[j]? = some a := hj
              rwa [List.getElem?_take_of_lt hjn] at hj2
            obtain ⟨l1, e1⟩ := List.getElem?_eq_some_iff.mp q
            obtain ⟨l2, e2⟩ := List.getElem?_eq_some_iff.mp hj'
            have := (List.getElem_inj rh.nd).mp (e1.trans e2.symm)
            omega
          | dct z rr => exact absurd (of_decide_eq_true e) hi
    | tup xs =>
      cases r with
      | tup a m q z r => exact .tup (fun hm => a (List.mem_of_mem_take hm)) m q z (i2 _ _ r e)
      | ktup kk z r => exact .ktup kk z (i2 _ _ r e)
    | lst xs =>
      cases r with
      | lst a m q z r => exact .lst (fun hm => a (List.mem_of_mem_take hm)) m q z (i2 _ _ r e)
    | non => exact r.cut e
    | bl b => exact r.cut e
    | int i => exact r.cut e
    | str x => exact r.cut e
    | fz xs => exact r.cut e
    | ftup xs => exact r.cut e
    | exc c => exact r.cut e
    | exf c f d => exact r.cut e
theorem finD_post {f : Bool} {d : D} {h2 : Hh} {Q : VK} (rh : RH K J h H) (p : Post K J H (rD K) (finD f h.length d h2) Q) : ∀ J' H' v, Ext J H J' H' → RH K J' h2 H' → RD K J' H' d v → Q v H' := by
  intro J' H' v e rh' rv
  unfold finD at p
  cases f with
  | false => exact p J' H' v e rh' rv
  | true =>
    simp only [if_true] at p
    split at p
    · rename_i hc
      (simp only [Bool.and_eq_true] at hc)
      have hle : h.length ≤ h2.length := by
        obtain ⟨m, hm, _⟩ := e.pre
        rw [← rh'.len, ← rh.len, hm, List.length_append]; omega
      exact p _ H' v (e.cut rh) (rh'.cut hle hc.2) (frz_rd rh' 4 _ _ rv hc.1)
    · exact p.elim
theorem finR_post {mg : Str → Option Value} {E : XK} {f : Bool} {r : RS} {Q : VK} (rh : RH K J h H) (p : PostX K mg E J H (rD K) (finR f h.length r) Q) : PostS ⟨K, mg, fun c d _ H => E c d H⟩ J H r { nx := fun _ H' => Q .non H', rt := Q } := by
  have back : ∀ {d : D} {h2 : Hh}, PostX K mg E J H (rD K) (finD f h.length d h2) Q → Post K J H (rD K) (finD f h.length d h2) Q := fun {d h2} p => by
    unfold finD at p ⊢
    cases f with
    | false => exact p
    | true =>
      simp only [if_true] at p ⊢
      split
      · rename_i hc; rw [if_pos hc] at p; exact p
      · rename_i hc; rw [if_neg hc] at p; exact p
  cases r with
  | ret d h2 => exact finD_post rh (back p)
  | nxt ρ h2 => exact fun J' H' σ e re rh' => finD_post rh (back p) J' H' .non e rh' .non
  | bad => exact p
  | brk _ _ => exact False.elim p
  | cnt _ _ => exact False.elim p
  | err ρ x h2 => exact fun J' H' σ c d e re rh' rx => p J' H' c d e rh' rx
theorem re_start {N : List Str} {ds : List D} {vs : List V} (r : RDs K J H ds vs) : RE K J H (ds.map some ++ List.replicate (N.length - ds.length) none) (L2.start N vs) := by
  refine ⟨by simp [L2.start, r.length], fun i d q => ?_⟩
  by_cases hi : i < ds.length
  · rw [List.getElem?_append_left (by simpa using hi), List.getElem?_map] at q
    cases hd : ds[i]? with
    | none => rw [hd] at q; cases q
    | some d' =>
      rw [hd] at q; cases q
      obtain ⟨v, h1, h2⟩ := r.get hd
      refine ⟨v, ?_, h2⟩
      have hv : i < vs.length := (List.getElem?_eq_some_iff.mp h1).1
      unfold L2.start
      rw [List.getElem?_append_left (by simpa using hv), List.getElem?_map, h1]; rfl
  · rw [List.getElem?_append_right (by simp; omega)] at q
    rw [List.getElem?_replicate] at q
    split at q <;> cases q
end

/-! ### a def by its body, where no repr is under way -/
section
variable {P : Program} {w : World} {K : PySem.W.Frag} {mg : Str → Option Value} {base : Heap} {params : Arguments} {body : List Stmt} {scope : Scope}
theorem deeper_guards (A : Around) (env : PySem.Env) : (A.deeper env).guards = A.guards := rfl
theorem fnG_of {x : Str} {a : Addr} {fd : FuncData} {N ps : List Str} {k : Nat} {sp : Sp} (F : FunD K x x params body scope [] [] a fd) (S : FnScope N ps scope) (len : ∀ vs H Q E, sp vs H Q E → vs.length = ps.length)
    (hb : ∀ (cd : Value) (A : Around) (out : List PySem.Env) (s : Shared) (H : Hp) (vs : List V) (Q : VK) (E : XK), Room k (A.deeper (envOfC x scope s.heap.objs.size a cd)) → A.guards = some [] → sp vs H Q E →
      ∃ t, PSs (cxOf (L2N.CX P w) P w K mg base N x scope a cd A out s H E) body t ∧ t { nx := fun _ H' => Q .non H', rt := Q } (L2.start N vs) H) : FnG P w K mg base (k + 1) a fd ps sp := by
  (obtain ⟨oc, od, dV, kV, doc, pm, an, cdv, ct, osl, rfl, lk, hcd, _, _⟩ := F.ex)
  refine ⟨len, fun {A out s H args us vs Q E} hr hgd e0 hbd r hsp => ?_⟩
  have inK : K.In s.heap := e0.mod.kin.keeps fun b o e => (e0.bs b o e).1
  have noLim : s.heap.NoLimit := e0.mod.nolimit.keeps fun b o e => (e0.bs b o e).1
  refine codeAny_call_function hr.depth (inK _ _ lk) rfl S.co S.gen rfl (PySem.W.codeRec_of inK hcd) (hbd _ _ _ _ ?_)
  refine wpAny_newFunctionEnv_cells S.kind (fun y hy => ?_) fun env he s1 x1 => ?_
  · have hy1 := (List.of_mem_zip (show (y.1, y.2) ∈ ps.zip us from hy)).1
    cases S.par y.1 hy1 with
    | inl q => exact .inl q
    | inr q => exact .inr ⟨q, PySem.W.cellsFrom_some _ _ _ (.inl q)⟩
  · subst he
    refine ⟨noLim.keeps x1.toInCall.keep, codeAny_func ?_⟩
    obtain ⟨t, ht, hq⟩ := hb cdv A out s H vs Q E (hr.deeper _) hgd hsp
    have I : L2.Inv (cxOf (L2N.CX P w) P w K mg base N x scope a cdv A out s H E) [] (L2.start N vs) H s1 := inv_start S hr.hd e0 (len _ _ _ _ hsp) r x1
    (refine wpAny_mono (ht.run [] s1 (L2.start N vs) H _ I hq) (fun fl s' hs => ?_) fun e s' hs => hs)
    cases fl with
    | ret u => obtain ⟨v, σ', H', I', rv, q⟩ := hs; exact ⟨v, H', I'.os, I'.bare, I'.base, I'.hok, rv, q⟩
    | next => obtain ⟨σ', H', I', q⟩ := hs; exact ⟨.non, H', I'.os, I'.bare, I'.base, I'.hok, rfl, q⟩
    | brk => obtain ⟨_, _, _, q⟩ := hs; exact q.elim
    | cont => obtain ⟨_, _, _, q⟩ := hs; exact q.elim
end

/-! ### a def that is called within an except suite -/
section
variable {P : Program} {w : World} {K : PySem.W.Frag} {mg : Str → Option Value} {base : Heap} {params : Arguments} {body : List Stmt} {scope : Scope}
theorem inv_hot {CX : CXT} {N ps : List Str} {qual : Str} {f : Addr} {cd : Value} {A : Around} {outer : List PySem.Env} {s s1 : Shared} {H : Hp} {E : XK} {us : List Value} {vs : List V} (S : FnScope N ps scope) (e0 : Env0 P w K mg base A outer s H) (hl : vs.length = ps.length) (r : Vals vs us) (x : InCallC s s.heap.objs.size (bindL (envOfC qual scope s.heap.objs.size f cd).kindOf (ps.zip us) fun _ => none) (cellsFrom (s.heap.objs.size + 1) scope.names []) (bindC (envOfC qual scope s.heap.objs.size f cd).kindOf (ps.zip us) fun _ => none) s1) :
    L2.Inv { cxOf CX P w K mg base N qual scope f cd A outer s H E with calm := false } [] (L2.start N vs) H s1 := by
  have e1 : Env0 P w K mg base { A with handled := none } outer s H := { e0 with frames := e0.frames }
  have I := inv_start (CX := CX) (E := E) (cd := cd) (f := f) (qual := qual) (A := { A with handled := none }) S rfl e1 hl r x
  exact { I with ok := { I.ok with hd := (fun z => nomatch (show false = true from z)), frames := Around.frames_deeper e0.frames } }
theorem fnQ_of {x : Str} {a : Addr} {fd : FuncData} {N ps : List Str} {k : Nat} {sp : Sp} (F : FunD K x x params body scope [] [] a fd) (S : FnScope N ps scope) (len : ∀ vs H Q E, sp vs H Q E → vs.length = ps.length)
    (hb : ∀ (cd : Value) (A : Around) (out : List PySem.Env) (s : Shared) (H : Hp) (vs : List V) (Q : VK), L2H.RoomH k (A.deeper (envOfC x scope s.heap.objs.size a cd)) → A.guards = some [] → sp vs H Q E0 →
      ∃ t, PSs { cxOf (L2N.CX P w) P w K mg base N x scope a cd A out s H E0 with calm := false } body t ∧ t { nx := fun _ H' => Q .non H', rt := Q } (L2.start N vs) H) : FnQ P w K mg base (k + 1) a fd ps sp := by
  (obtain ⟨oc, od, dV, kV, doc, pm, an, cdv, ct, osl, rfl, lk, hcd, _, _⟩ := F.ex)
  refine ⟨len, fun {A out s H args us vs Q} hr hgd e0 hbd r hsp => ?_⟩
  have inK : K.In s.heap := e0.mod.kin.keeps fun b o e => (e0.bs b o e).1
  have noLim : s.heap.NoLimit := e0.mod.nolimit.keeps fun b o e => (e0.bs b o e).1
  refine codeAny_call_function hr.depth (inK _ _ lk) rfl S.co S.gen rfl (PySem.W.codeRec_of inK hcd) (hbd _ _ _ _ ?_)
  refine wpAny_newFunctionEnv_cells S.kind (fun y hy => ?_) fun env he s1 x1 => ?_
  · have hy1 := (List.of_mem_zip (show (y.1, y.2) ∈ ps.zip us from hy)).1
    cases S.par y.1 hy1 with
    | inl q => exact .inl q
    | inr q => exact .inr ⟨q, PySem.W.cellsFrom_some _ _ _ (.inl q)⟩
  · subst he
    refine ⟨noLim.keeps x1.toInCall.keep, codeAny_func ?_⟩
    obtain ⟨t, ht, hq⟩ := hb cdv A out s H vs Q (hr.deeper _) hgd hsp
    have I := inv_hot (CX := L2N.CX P w) (E := E0) S e0 (len _ _ _ _ hsp) r x1
    (refine wpAny_mono (ht.run [] s1 (L2.start N vs) H _ I hq) (fun fl s' hs => ?_) fun e s' hs => hs)
    cases fl with
    | ret u => obtain ⟨v, σ', H', I', rv, q⟩ := hs; exact ⟨v, H', I'.os, I'.bare, I'.base, I'.hok, rv, q⟩
    | next => obtain ⟨σ', H', I', q⟩ := hs; exact ⟨.non, H', I'.os, I'.bare, I'.base, I'.hok, rfl, q⟩
    | brk => obtain ⟨_, _, _, q⟩ := hs; exact q.elim
    | cont => obtain ⟨_, _, _, q⟩ := hs; exact q.elim
end

/-! ### the table of the defs -/
/-- what a law's text is read by: free names, module constants, exception classes (made, named, with a field), defs that suites call -/
structure Lw where
  bs : List Str
  gn : List Str
  xs : List Str
  xm : Xm
  xg : List (Str × Str)
  qt : List Nat
def Lw.cs (L : Lw) (T : List Fn) (N : List Str) (scope : Scope) (hot : Bool) : Cs := ⟨N, scope, fun _ => true, L.bs, T, L.gn, L.xs, L.xm, L.xg, hot, L.qt⟩
/-- what is known of a def of the table: where it stands, its text -/
structure DefOk (K : PySem.W.Frag) (mg : Str → Option Value) (L : Lw) (T : List Fn) (f : Nat) (fn : Fn) (params : Arguments) (body : List Stmt) (scope : Scope) : Prop where
  sc : FnScope fn.N fn.P scope
  ok : mSs (L.cs T fn.N scope false) fn.body body = true
  okq : f ∈ L.qt → mSs (L.cs T fn.N scope true) fn.body body = true
  ex : ∃ a fd, FunD K fn.dn fn.dn params body scope [] [] a fd ∧ mg fn.name = some (.ref a) ∧ L2.Binds K fd fn.P [] ∧ ∀ q ∈ fn.kw, KwOk K fd fn.P q.1 q.2.1 q.2.2
/-- what is known of the module's names -/
structure ModOk (P : Program) (K : PySem.W.Frag) (mg : Str → Option Value) (L : Lw) (G : List D) : Prop where
  b : ∀ x ∈ L.bs, mg x = none
  g : ∀ (i : Nat) (x : Str) (d : D), L.gn[i]? = some x → G[i]? = some d → ∃ v u, mg x = some u ∧ L2.RelV v u ∧ ∀ J H, RD K J H d v
  x : ∀ x ∈ L.xs, ∃ C, mg x = some (.ref C) ∧ PySem.W.excIn K C He.veBase "ValueError.__new__" = true ∧ PySem.W.keepIn K (.ref C) = true ∧ PySem.W.subIn K (.ref C) (.type "BaseException") = some true ∧ PySem.W.typeIn K (.ref C) = some (.type "type")
  m : XF K mg L.xm
  t : GtOk P K mg L.xg
section
variable {P : Program} {w : World} {K : PySem.W.Frag} {mg : Str → Option Value} {base : Heap} {T : List Fn} {L : Lw} {G : List D}
def TabAt (P : Program) (w : World) (K : PySem.W.Frag) (mg : Str → Option Value) (base : Heap) (T : List Fn) (G : List D) (k : Nat) : Prop := ∀ (f : Nat) (fn : Fn), T[f]? = some fn →
    ∃ a fd, mg fn.name = some (.ref a) ∧ PySem.W.keepIn K (.ref a) = true ∧ FnG P w K mg base k a fd fn.P (spF K mg (callN T G k) f fn.P.length) ∧ L2.Binds K fd fn.P [] ∧ ∀ q ∈ fn.kw, KwOk K fd fn.P q.1 q.2.1 q.2.2
def TabQ (P : Program) (w : World) (K : PySem.W.Frag) (mg : Str → Option Value) (base : Heap) (T : List Fn) (qt : List Nat) (G : List D) (k : Nat) : Prop := ∀ (f : Nat) (fn : Fn), f ∈ qt → T[f]? = some fn →
    ∃ a fd, mg fn.name = some (.ref a) ∧ PySem.W.keepIn K (.ref a) = true ∧ FnQ P w K mg base k a fd fn.P (spF K mg (callN T G k) f fn.P.length) ∧ L2.Binds K fd fn.P []
theorem ModOk.raise (M : ModOk P K mg L G) {X : Cx} (hK : X.K = K) (hm : X.mg = mg) : ∀ x ∈ L.xs, ∃ C, X.mg x = some (.ref C) ∧ PySem.W.excIn X.K C He.veBase "ValueError.__new__" = true ∧ PySem.W.keepIn X.K (.ref C) = true ∧ Raises X (.ref C) := by
  subst hK hm
  exact fun x hxs => let ⟨C, m1, m2, m3, m4, m5⟩ := M.x x hxs; ⟨C, m1, m2, m3, raises_own m4 m5⟩
theorem def_run {k f : Nat} {fn : Fn} {vs : List V} {H : Hp} {Q : VK} {E : XK} (hf : T[f]? = some fn) (hsp : spF K mg (callN T G (k + 1)) f fn.P.length vs H Q E) :
    tS ⟨K, mg, fun c d _ H => E c d H⟩ (evSs (callN T G k) G fn.body) { nx := fun _ H' => Q .non H', rt := Q } (L2.start fn.N vs) H := by
  obtain ⟨hl, J, h, ds, rs, rh, q⟩ := hsp
  have q : PostX K mg E J H (rD K) (match T[f]? with
    | none => .bad
    | some fn => if ds.length = fn.P.length then finR fn.frz h.length (evSs (callN T G k) G fn.body (ds.map some ++ List.replicate (fn.N.length - ds.length) none) h) else .bad) Q := q
  rw [hf] at q
  dsimp only at q
  rw [if_pos (by rw [rs.length]; exact hl)] at q
  exact ⟨_, h, J, re_start rs, rh, finR_post rh q⟩
/-- one def more deep -/
theorem def_step (M : ModOk P K mg L G) {k f : Nat} {fn : Fn} {params : Arguments} {body : List Stmt} {scope : Scope} {a : Addr} {fd : FuncData}
    (IH : TabAt P w K mg base T G k) (IQ : TabQ P w K mg base T L.qt G k) (hf : T[f]? = some fn) (sc : FnScope fn.N fn.P scope) (ok : mSs (L.cs T fn.N scope false) fn.body body = true) (fu : FunD K fn.dn fn.dn params body scope [] [] a fd) :
    FnG P w K mg base (k + 1) a fd fn.P (spF K mg (callN T G (k + 1)) f fn.P.length) := by
  unfold TabAt at IH
  unfold TabQ at IQ
  refine fnG_of fu sc (fun vs H Q E h => h.1) (fun cdv A outer s H vs Q E hr hgd hsp => ⟨tS ⟨K, mg, fun c d _ H => E c d H⟩ (evSs (callN T G k) G fn.body), ?_, def_run hf hsp⟩)
  exact sSs fn.body (c := L.cs T fn.N scope false) (X := cxOf (L2N.CX P w) P w K mg base fn.N fn.dn scope a cdv A outer s H E) (W := fun c d _ H => E c d H) ⟨⟨rfl, sc.nd, rfl, rfl, fun _ => rfl, fun _ => ⟨k, hr, hgd, IH⟩, ⟨k, L2H.roomH_of hr, hgd, IQ⟩, M.b, M.g, M.raise rfl rfl, M.m, M.t⟩, fun _ => passes_of rfl, fun _ => L2N.takes_of rfl rfl rfl rfl, rfl, rfl⟩ body ok
theorem def_stepQ (M : ModOk P K mg L G) {k f : Nat} {fn : Fn} {params : Arguments} {body : List Stmt} {scope : Scope} {a : Addr} {fd : FuncData}
    (IQ : TabQ P w K mg base T L.qt G k) (hf : T[f]? = some fn) (sc : FnScope fn.N fn.P scope) (ok : mSs (L.cs T fn.N scope true) fn.body body = true) (fu : FunD K fn.dn fn.dn params body scope [] [] a fd) :
    FnQ P w K mg base (k + 1) a fd fn.P (spF K mg (callN T G (k + 1)) f fn.P.length) := by
  unfold TabQ at IQ
  refine fnQ_of fu sc (fun vs H Q E h => h.1) (fun cdv A outer s H vs Q hr hgd hsp => ⟨tS ⟨K, mg, fun c d _ H => E0 c d H⟩ (evSs (callN T G k) G fn.body), ?_, def_run hf hsp⟩)
  exact sSs fn.body (c := L.cs T fn.N scope true) (X := { cxOf (L2N.CX P w) P w K mg base fn.N fn.dn scope a cdv A outer s H E0 with calm := false }) (W := fun c d _ H => E0 c d H) ⟨⟨rfl, sc.nd, rfl, rfl, (fun h => nomatch (show true = false from h)), (fun h => nomatch (show true = false from h)), ⟨k, hr, hgd, IQ⟩, M.b, M.g, M.raise rfl rfl, M.m, M.t⟩, (fun h => nomatch (show true = false from h)), (fun h => nomatch (show true = false from h)), rfl, rfl⟩ body ok
theorem tab_both (hT : ∀ (f : Nat) (fn : Fn), T[f]? = some fn → ∃ params body scope, DefOk K mg L T f fn params body scope) (M : ModOk P K mg L G) : ∀ (k : Nat), TabAt P w K mg base T G k ∧ TabQ P w K mg base T L.qt G k
  | 0 => by
    refine ⟨fun f fn hf => ?_, fun f fn hq hf => ?_⟩
    · obtain ⟨params, body, scope, d⟩ := hT f fn hf
      obtain ⟨a, fd, fu, hma, hbd, hkw⟩ := d.ex
      refine ⟨a, fd, hma, fu.kp, ⟨fun vs H Q E h => h.1, fun {A out s H args us vs Q E} hr hgd e0 hb' r hsp => ?_⟩, hbd, hkw⟩
      obtain ⟨_, J, h, ds, _, _, q⟩ := hsp
      exact False.elim q
    · obtain ⟨params, body, scope, d⟩ := hT f fn hf
      obtain ⟨a, fd, fu, hma, hbd, hkw⟩ := d.ex
      refine ⟨a, fd, hma, fu.kp, ⟨fun vs H Q E h => h.1, fun {A out s H args us vs Q} hr hgd e0 hb' r hsp => ?_⟩, hbd⟩
      obtain ⟨_, J, h, ds, _, _, q⟩ := hsp
      exact False.elim q
  | k + 1 => by
    obtain ⟨IH, IQ⟩ := tab_both hT M k
    refine ⟨fun f fn hf => ?_, fun f fn hq hf => ?_⟩
    · obtain ⟨params, body, scope, d⟩ := hT f fn hf
      obtain ⟨a, fd, fu, hma, hbd, hkw⟩ := d.ex
      exact ⟨a, fd, hma, fu.kp, def_step M IH IQ hf d.sc d.ok fu, hbd, hkw⟩
    · obtain ⟨params, body, scope, d⟩ := hT f fn hf
      obtain ⟨a, fd, fu, hma, hbd, hkw⟩ := d.ex
      exact ⟨a, fd, hma, fu.kp, def_stepQ M IQ hf d.sc (d.okq hq) fu, hbd⟩
/-- a call with keywords -/
theorem kw_mk {x qual : Str} {params : Arguments} {body : List Stmt} {scope : Scope} {a : Addr} {fd : FuncData} {ps : List Str} {n : Nat} {ks : List Str} {pm : List Nat} (fu : FunD K x qual params body scope [] [] a fd) (hl : pm.length = ps.length)
    (h : ∀ (kV doc pmv : Value) (an : Option Addr) (cdv ct : Value) (us ws : List Value), us.length = n → ws.length = ks.length → bindArgs (PySem.W.fnOf x qual params body scope .none kV doc pmv an cdv ct) ⟨us, ks.zip ws⟩ = pure (ps.zip (pmD .none pm us ws))) : KwOk K fd ps n ks pm := by
  obtain ⟨oc, od, dV, kV, doc, pmv, an, cdv, ct, osl, rfl, lk, hcd, hD, hK⟩ := fu.ex
  (rcases hD with ⟨_, rfl⟩ | ⟨e, _⟩)
  · exact ⟨fun s us ws _ h1 h2 => .of_eq (h kV doc pmv an cdv ct us ws h1 h2), hl⟩
  · exact absurd rfl e
/-- the law: what the evaluator says of it holds -/
theorem law_sp {f n k : Nat} {fn : Fn} (hf : T[f]? = some fn) (hp : fn.P.length = 1) (hev : ∀ ns : List Int, ns.length ≤ n → ∃ h, callN T G k f [.fz (ns.map D.int)] [] = .ok (.bl true) h) (hn : n ≤ sizeLine) (H : Hp) (a : Addr) (ns : List Int) (hl : ns.length ≤ n) (hO : Only H) (hS : SqL K H a (ns.map V.int)) :
    spF K mg (callN T G k) f fn.P.length [.ref a] H (fun v _ => v = .bl true) fun _ _ _ => False := by
  refine ⟨hp.symm, ⟨[], []⟩, [], [.fz (ns.map D.int)], .cons ?_ .nil, ⟨List.nodup_nil, rfl, fun i o e => by simp at e, fun a ha => (by cases ha), fun a ha => (by cases ha)⟩, ?_⟩
  · have rs : ∀ ns : List Int, RDs K ⟨[], []⟩ H (ns.map D.int) (ns.map V.int) := by
      intro ns
      induction ns with
      | nil => exact .nil
      | cons i r ih => exact .cons (.int i) ih
    have hz : (ns.map V.int).length ≤ sizeLine := by rw [List.length_map]; omega
    rcases hS with hS | hS
    · rcases hO a with e | ⟨o, xs, e⟩
      · rcases hS with q | ⟨_, q⟩ <;> rw [e] at q <;> cases q
      · rcases hS with q | ⟨o', q⟩
        · rw [e] at q; cases q
        · exact .fz (fun hm => by cases hm) (fun hm => by cases hm) q hz (rs ns)
    · exact .kfz hS hz (rs ns)
  · obtain ⟨h, e⟩ := hev ns hl
    rw [e]
    intro J' H' b _ _ rv
    cases rv; rfl

/-! ### the law's call -/
theorem law_g {mb : Str → Option Value} {k : Nat} {fa a : Addr} {fd : FuncData} {x : Str} {sp : Sp} {s1 : Shared} {vs : List Value} {ns : List Int}
    (kx : K.In s1.heap) (hm : s1.heap.Ns mainGlobals mg) (hbn : s1.heap.Ns builtinsNs mb) (hbb : ∀ y : Str, y ≠ "__name__" → mb y = bootBuiltins y) (hlim : s1.heap.NoLimit) (hgn : s1.gens = #[])
    (ha : s1.heap.get? a = some { cls := .type "list", data := .seq vs.toArray }) (hi : IntsAre vs ns) (hl : ns.length ≤ sizeLine) (hr : Room k callerA)
    (hF : ∀ base : Heap, K.In base → base.Ns mainGlobals mg → FnG P w K mg base k fa fd [x] sp) (hbd : ∀ (s : Shared) (u : Value), BindsTo s fd ⟨[u], []⟩ [(x, u)])
    (hsp : ∀ H : Hp, Only H → SqL K H a (ns.map V.int) → sp [.ref a] H (fun v _ => v = .bl true) E0) :
    codeAny (model P w) callerA (.call (.ref fa) ⟨[.ref a], []⟩) (fun r s' => r = .ok (.ret (.bool true)) ∧ OldK s1.heap s'.heap ∧ s'.os = s1.os ∧ AllBare s'.gens) s1 := by
  have rv : Vals (ns.map V.int) vs := vals_ints hi
  have hlen := hi.length
  have main : ∀ H : Hp, Only H → SqL K H a (ns.map V.int) → HOk P w H s1.heap → (∀ b, H b ≠ none → b = a ∧ K.lookup a = none) →
      codeAny (model P w) callerA (.call (.ref fa) ⟨[.ref a], []⟩) (fun r s' => r = .ok (.ret (.bool true)) ∧ OldK s1.heap s'.heap ∧ s'.os = s1.os ∧ AllBare s'.gens) s1 := by
    intro H only seq ok own
    have keep : ∀ {b : Addr} {o : Obj}, s1.heap.get? b = some o → H b = none → (hidT s1.heap H).get? b = some o := fun e n => hidT_get e n
    have dictFree : ∀ {b : Addr} {o : Obj} {es : Array DictEntry} {n : Nat}, s1.heap.get? b = some o → o.data = .dict es n → H b = none := by
      intro b o es n e d
      cases hq : H b with
      | none => rfl
      | some u =>
        obtain rfl := (own b (by rw [hq]; exact Option.some_ne_none u)).1
        rw [ha] at e; cases e; cases d
    have names : ∀ {b : Addr} {m : Str → Option Value}, s1.heap.Ns b m → (hidT s1.heap H).Ns b m := by
      rintro b m ⟨o, es, n, e, d, q⟩
      exact ⟨o, es, n, keep e (dictFree e d), d, q⟩
    have kIn : K.In (hidT s1.heap H) := by
      intro b o e
      refine keep (kx b o e) ?_
      cases hq : H b with
      | none => rfl
      | some u =>
        obtain ⟨rfl, hk⟩ := own b (by rw [hq]; exact Option.some_ne_none u)
        rw [hk] at e; cases e
    obtain ⟨mc, c1, c2⟩ := hlim
    have env : Env0 P w K mg (hidT s1.heap H) callerA [] s1 H :=
      ⟨rfl, ⟨kIn, names hm, ⟨mb, names hbn, hbb⟩, ⟨mc, names c1, c2⟩⟩, fun b o e => of_hidT e, Nat.le_of_eq (hidT_size _ _), trivial, fun b hb => (List.not_mem_nil hb).elim, ok, .of_eq hgn⟩
    refine codeAny_mono ((hF _ kIn (names hm)).go (us := [.ref a]) (vs := [.ref a]) hr rfl env (hbd s1 (.ref a)) (.cons rfl .nil) (hsp H only seq)) fun r s' hq => ?_
    cases r with
    | error e =>
      obtain ⟨_, _, _, _, _, _, _, _, _, _, _, _, z⟩ := hq
      exact z.elim
    | ok fl =>
      cases fl with
      | next => exact False.elim hq
      | brk => exact False.elim hq
      | cont => exact False.elim hq
      | ret u =>
        obtain ⟨v, H', os, bare, un, ok', ru, rfl⟩ := hq
        cases (show u = Value.bool true from ru)
        (refine ⟨rfl, OldK.of_keep fun b o e => ?_, os, bare⟩)
        cases hb : H b with
        | none => exact un.keep b o e hb (fun z => List.not_mem_nil z) (by simp)
        | some u =>
          rcases only b with z | ⟨ob, xs, z⟩
          · rw [hb] at z; cases z
          · have e1 := (ok b _ z).1
            have e2 := (ok' b _ (un.frzs b ob _ z)).1
            rw [e] at e1; cases e1; exact e2
  cases hk : K.lookup a with
  | some o =>
    have e := kx a o hk
    rw [ha] at e; cases e
    exact main (fun _ => none) (fun _ => .inl rfl) (.inr ⟨_, vs.toArray, _, hk, rfl, rfl, rfl, by simpa [hlen] using hl, by simpa using rv⟩) (fun b u z => by cases z) fun b z => absurd rfl z
  | none =>
    let H : Hp := upd (fun _ => none) a (.frz { cls := .type "list", data := .seq vs.toArray } (.lst (ns.map V.int)))
    have ne : ∀ {b : Addr}, b ≠ a → H b = none := fun hb => upd_ne hb
    refine main H (fun b => ?_) (.inl (.inr ⟨_, upd_same⟩)) (fun b u z => ?_) fun b z => ?_
    · by_cases hb : b = a
      · subst hb; exact .inr ⟨_, _, upd_same⟩
      · exact .inl (ne hb)
    · by_cases hb : b = a
      · subst hb
        have z' : some _ = some u := upd_same.symm.trans z
        cases z'
        (exact ⟨ha, by rw [List.length_map]; exact hl, vs, _, rv, ha⟩)
      · rw [ne hb] at z; cases z
    · by_cases hb : b = a
      · exact ⟨hb, hk⟩
      · exact absurd (ne hb) z
end
/-- a law over the evaluator -/
theorem walk_g {l : PySem.W.OpenLaw} {n k : Nat} {q : Program} {loose : List Str} {XP : (Str → Option Value) → Heap → Prop} {YP : World → Heap → Prop} {d : DefRec} {x : Str}
    (hn : l.most = some n) (hn2 : n ≤ sizeLine)
    (hdf : d.params.defaults = []) (hr : Room k callerA)
    (hF : ∀ (w : World) (mg : Str → Option Value) (fa : Addr) (h : Heap), YP w h → h.Ns mainGlobals mg → mg d.name = some (.ref fa) →
      ∃ (K : PySem.W.Frag) (fd : FuncData) (sp : Sp), K.In h ∧
        (∀ (s : Shared) (u : Value), BindsTo s fd ⟨[u], []⟩ [(x, u)]) ∧
        (∀ (H : Hp) (a : Addr) (ns : List Int), ns.length ≤ n → Only H → SqL K H a (ns.map V.int) → sp [.ref a] H (fun v _ => v = .bl true) E0) ∧
        ∀ base : Heap, K.In base → base.Ns mainGlobals mg → FnG l.prog w K mg base k fa fd [x] sp) :
    (PySem.W.WalkO q loose XP YP l.row.toRowW d [] (fun f vs => PySem.call f vs)) := by
  refine Att.attach_call hn hdf fun w t0 t1 mg mb fa o pm cd doc a vs ns W Y ho hd hcd hmg hobj hints hlen hgn => ?_
  obtain ⟨K, fd, sp, kx, hbd, hsp, go⟩ := hF w mg fa _ Y W.T.g hmg
  exact law_g kx W.T.g W.T.b W.T.builtins W.T.nolimit hgn hobj hints (Nat.le_trans hlen hn2) hr go hbd fun H only seq => hsp H a ns hlen only seq
end PV
end

section
/-! PvU: rules for running the evaluator by simp. -/
namespace PV
open PySem L2
section
variable {α β : Type} {F : Fns} {G : List D} {ρ : Env} {h : Hh}
/-- locks a continuation: simp leaves it as it stands until its value is there -/
structure Lk {γ : Type} (f : γ) : Type where
  mk ::
def R.bnd (r : R α) (f : α → Hh → R β) (_ : Lk f) : R β := r.bind f
def R.thn (r : R α) (f : α → Hh → RS) (_ : Lk f) : RS := r.then_ f
def RS.thn (r : RS) (f : Env → Hh → RS) (_ : Lk f) : RS := r.then_ f
@[simp] theorem bnd_ok (a : α) (h : Hh) (f : α → Hh → R β) (l : Lk f) : (R.ok a h).bnd f l = f a h := id rfl
@[simp] theorem bnd_bad (f : α → Hh → R β) (l : Lk f) : (R.bad : R α).bnd f l = .bad := id rfl
@[simp] theorem thn_ok (a : α) (h : Hh) (f : α → Hh → RS) (l : Lk f) : (R.ok a h).thn f l = f a h := id rfl
@[simp] theorem thn_bad (f : α → Hh → RS) (l : Lk f) : (R.bad : R α).thn f l = .bad := id rfl
@[simp] theorem sthn_nxt (ρ : Env) (h : Hh) (f : Env → Hh → RS) (l : Lk f) : (RS.nxt ρ h).thn f l = f ρ h := id rfl
@[simp] theorem sthn_ret (d : D) (h : Hh) (f : Env → Hh → RS) (l : Lk f) : (RS.ret d h).thn f l = .ret d h := id rfl
@[simp] theorem sthn_bad (f : Env → Hh → RS) (l : Lk f) : RS.bad.thn f l = .bad := id rfl
@[simp] theorem sthn_brk (ρ : Env) (h : Hh) (f : Env → Hh → RS) (l : Lk f) : (RS.brk ρ h).thn f l = .brk ρ h := id rfl
@[simp] theorem sthn_cnt (ρ : Env) (h : Hh) (f : Env → Hh → RS) (l : Lk f) : (RS.cnt ρ h).thn f l = .cnt ρ h := id rfl
@[simp] theorem bnd_ite {c : Prop} [Decidable c] {a b : R α} {f : α → Hh → R β} {l : Lk f} : (if c then a else b).bnd f l = if c then a.bnd f l else b.bnd f l := by split <;> rfl
@[simp] theorem thn_ite {c : Prop} [Decidable c] {a b : R α} {f : α → Hh → RS} {l : Lk f} : (if c then a else b).thn f l = if c then a.thn f l else b.thn f l := by split <;> rfl
@[simp] theorem sthn_ite {c : Prop} [Decidable c] {a b : RS} {f : Env → Hh → RS} {l : Lk f} : (if c then a else b).thn f l = if c then a.thn f l else b.thn f l := by split <;> rfl
@[simp] theorem finR_ite {c : Prop} [Decidable c] {a b : RS} {g : Bool} {n : Nat} : finR g n (if c then a else b) = if c then finR g n a else finR g n b := by split <;> rfl
@[simp] theorem finR_ret (n : Nat) (d : D) (h : Hh) : finR false n (.ret d h) = .ok d h := id rfl
@[simp] theorem finR_err (g : Bool) (n : Nat) (ρ : Env) (x : Xc) (h : Hh) : finR g n (.err ρ x h) = .err x h := id rfl
@[simp] theorem sthn_err (ρ : Env) (x : Xc) (h : Hh) (f : Env → Hh → RS) (l : Lk f) : (RS.err ρ x h).thn f l = .err ρ x h := id rfl
@[simp] theorem finR_nxt (n : Nat) (ρ : Env) (h : Hh) : finR false n (.nxt ρ h) = .ok .non h := id rfl
/-! expressions -/
theorem opt_map {f : α → β} (o : Option α) (h : Hh) : R.opt (o.map f) h = (R.opt o h).bind fun a h => .ok (f a) h := by cases o <;> rfl
@[simp] theorem v_var (i : Nat) : (evE F G (.var i)).v ρ h = (match ρ[i]? with | some (some d) => R.ok d h | _ => R.bad) := id rfl
@[simp] theorem v_con (d : D) : (evE F G (.con d)).v ρ h = .ok d h := id rfl
@[simp] theorem v_glo (i : Nat) : (evE F G (.glo i)).v ρ h = R.opt G[i]? h := id rfl
@[simp] theorem t_miss : (evE F G .miss).t ρ h = .ok true h := id rfl
@[simp] theorem v_tup' (es : Es) : (evE F G (.tup es)).v ρ h = ((evEs F G es).l ρ h).bnd (fun xs h1 => if sizeOk xs.length then .ok (.tup xs) h1 else .bad) ⟨⟩ := id rfl
@[simp] theorem v_ftup' (es : Es) : (evE F G (.ftup es)).v ρ h = ((evEs F G es).l ρ h).bnd (fun xs h1 => if sizeOk xs.length then .ok (.ftup xs) h1 else .bad) ⟨⟩ := id rfl
@[simp] theorem v_lst' (es : Es) : (evE F G (.lst es)).v ρ h = ((evEs F G es).l ρ h).bnd (fun xs h1 => if sizeOk xs.length then .ok (.lst xs) h1 else .bad) ⟨⟩ := id rfl
@[simp] theorem v_new (e : E) : (evE F G (.new e)).v ρ h = ((evE F G e).v ρ h).bnd newObj ⟨⟩ := id rfl
@[simp] theorem v_bin (o : BOp) (a b : E) : (evE F G (.bin o a b)).v ρ h = ((evE F G a).v ρ h).bnd (fun x h1 => ((evE F G b).v ρ h1).bnd (fun y h2 => R.opt (opBin o h2 x y) h2) ⟨⟩) ⟨⟩ := id rfl
@[simp] theorem v_neg (a : E) : (evE F G (.neg a)).v ρ h = ((evE F G a).v ρ h).bnd (fun x h1 => R.opt (x.isInt.map fun i => .int (-i)) h1) ⟨⟩ := id rfl
@[simp] theorem v_cmp (o : COp) (a b : E) : (evE F G (.cmp o a b)).v ρ h = ((evE F G a).v ρ h).bnd (fun x h1 => ((evE F G b).v ρ h1).bnd (fun y h2 => (R.opt (opCmp o h2 x y) h2).bnd (fun t h3 => .ok (.bl t) h3) ⟨⟩) ⟨⟩) ⟨⟩ := by
  show _ = ((evE F G a).v ρ h).bind fun x h1 => ((evE F G b).v ρ h1).bind fun y h2 => (R.opt (opCmp o h2 x y) h2).bind fun t h3 => .ok (D.bl t) h3
  simp only [← opt_map]; rfl
@[simp] theorem v_and (a : E) (r : Es) : (evE F G (.and a r)).v ρ h = ((evE F G a).v ρ h).bnd (fun x h1 => (vBl x h1).bnd (fun t h2 => if t then (evEs F G r).an ρ h2 else .ok (.bl false) h2) ⟨⟩) ⟨⟩ := id rfl
@[simp] theorem v_or (a : E) (r : Es) : (evE F G (.or a r)).v ρ h = ((evE F G a).v ρ h).bnd (fun x h1 => (vBl x h1).bnd (fun t h2 => if t then .ok (.bl true) h2 else (evEs F G r).on ρ h2) ⟨⟩) ⟨⟩ := id rfl
@[simp] theorem v_not (a : E) : (evE F G (.not a)).v ρ h = ((evE F G a).v ρ h).bnd (fun x h1 => (vBl x h1).bnd (fun t h2 => .ok (.bl (!t)) h2) ⟨⟩) ⟨⟩ := id rfl
@[simp] theorem v_ite (c a b : E) : (evE F G (.ite c a b)).v ρ h = ((evE F G c).t ρ h).bnd (fun t h1 => if t then (evE F G a).v ρ h1 else (evE F G b).v ρ h1) ⟨⟩ := id rfl
@[simp] theorem v_idx (a i : E) : (evE F G (.idx a i)).v ρ h = ((evE F G a).v ρ h).bnd (fun x h1 => ((evE F G i).v ρ h1).bnd (fun y h2 => R.opt (opIdx h2 x y) h2) ⟨⟩) ⟨⟩ := id rfl
@[simp] theorem v_slc (a lo hi : E) : (evE F G (.slc a lo hi)).v ρ h = ((evE F G a).v ρ h).bnd (fun x h1 => (vPart lo.isMiss (evE F G lo) ρ h1).bnd (fun l h2 => (vPart hi.isMiss (evE F G hi) ρ h2).bnd (fun u h3 => R.opt (opSlc h3 x l u) h3) ⟨⟩) ⟨⟩) ⟨⟩ := id rfl
@[simp] theorem v_call (f : Nat) (es : Es) : (evE F G (.call f es)).v ρ h = ((evEs F G es).l ρ h).bnd (fun xs h1 => F f xs h1) ⟨⟩ := id rfl
@[simp] theorem v_callK (f : Nat) (es kes : Es) (ks : List Nat) : (evE F G (.callK f es kes ks)).v ρ h = ((evEs F G es).l ρ h).bnd (fun xs h1 => ((evEs F G kes).l ρ h1).bnd (fun ys h2 => F f (pmD .non ks xs ys) h2) ⟨⟩) ⟨⟩ := id rfl
@[simp] theorem v_bf (f : Bf) (es : Es) : (evE F G (.bf f es)).v ρ h = ((evEs F G es).l ρ h).bnd (fun xs h1 => R.opt (opBf f h1 xs) h1) ⟨⟩ := id rfl
@[simp] theorem v_isi (a : E) (t : Ty) : (evE F G (.isi a t)).v ρ h = ((evE F G a).v ρ h).bnd (fun x h1 => if x.isF then .bad else .ok (.bl (opIsi t h1 x)) h1) ⟨⟩ := id rfl
@[simp] theorem v_chain (o p : COp) (a b c : E) : (evE F G (.chain o p a b c)).v ρ h = ((evE F G a).v ρ h).bnd (fun x h1 => ((evE F G b).v ρ h1).bnd (fun y h2 => (R.opt (opCmp o h2 x y) h2).bnd (fun t h3 =>
      if t then ((evE F G c).v ρ h3).bnd (fun z h4 => (R.opt (opCmp p h4 y z) h4).bnd (fun t h5 => .ok (.bl t) h5) ⟨⟩) ⟨⟩ else .ok (.bl false) h3) ⟨⟩) ⟨⟩) ⟨⟩ := by
  show _ = ((evE F G a).v ρ h).bind fun x h1 => ((evE F G b).v ρ h1).bind fun y h2 => (R.opt (opCmp o h2 x y) h2).bind fun t h3 =>
      if t then ((evE F G c).v ρ h3).bind fun z h4 => (R.opt (opCmp p h4 y z) h4).bind fun t h5 => .ok (D.bl t) h5 else .ok (D.bl false) h3
  simp only [← opt_map]; rfl
@[simp] theorem v_lcc (t : Tg) (it : I) (c e : E) : (evE F G (.lc t it c e)).v ρ h = (evI F G it ρ h).bnd (fun s h1 => if sizeOk s.items.length then lcLoop s.good (lcTurn t (evE F G c) (evE F G e) ρ) s.items [] h1 else .bad) ⟨⟩ := id rfl
@[simp] theorem v_tenum (a : E) : (evE F G (.tenum a)).v ρ h = ((evE F G a).v ρ h).bnd (fun x h1 => R.opt (tenumOp x) h1) ⟨⟩ := id rfl
/-! tests -/
@[simp] theorem t_and (a : E) (r : Es) : (evE F G (.and a r)).t ρ h = ((evE F G a).t ρ h).bnd (fun t h1 => if t then (evEs F G r).at_ ρ h1 else .ok false h1) ⟨⟩ := id rfl
@[simp] theorem t_or (a : E) (r : Es) : (evE F G (.or a r)).t ρ h = ((evE F G a).t ρ h).bnd (fun t h1 => if t then .ok true h1 else (evEs F G r).ot ρ h1) ⟨⟩ := id rfl
@[simp] theorem t_not (a : E) : (evE F G (.not a)).t ρ h = ((evE F G a).t ρ h).bnd (fun t h1 => .ok (!t) h1) ⟨⟩ := id rfl
@[simp] theorem t_ite (c a b : E) : (evE F G (.ite c a b)).t ρ h = ((evE F G c).t ρ h).bnd (fun t h1 => if t then (evE F G a).t ρ h1 else (evE F G b).t ρ h1) ⟨⟩ := id rfl
theorem t_cmp0 (o : COp) (a b : E) : (evE F G (.cmp o a b)).t ρ h = ((evE F G a).v ρ h).bind fun x h1 => ((evE F G b).v ρ h1).bind fun y h2 => R.opt (opCmp o h2 x y) h2 := by
  show R.bind (R.bind ((evE F G a).v ρ h) fun x h1 => R.bind ((evE F G b).v ρ h1) fun y h2 => R.opt ((opCmp o h2 x y).map D.bl) h2) _ = _
  rw [R.bind_assoc]
  congr 1; funext x h1
  rw [R.bind_assoc]
  congr 1; funext y h2
  cases opCmp o h2 x y <;> rfl
@[simp] theorem t_cmp (o : COp) (a b : E) : (evE F G (.cmp o a b)).t ρ h = ((evE F G a).v ρ h).bnd (fun x h1 => ((evE F G b).v ρ h1).bnd (fun y h2 => R.opt (opCmp o h2 x y) h2) ⟨⟩) ⟨⟩ := t_cmp0 o a b
theorem t_isi0 (a : E) (t : Ty) : (evE F G (.isi a t)).t ρ h = ((evE F G a).v ρ h).bind fun x h1 => if x.isF then .bad else .ok (opIsi t h1 x) h1 := by
  show R.bind (R.bind ((evE F G a).v ρ h) fun x h1 => if x.isF then .bad else .ok (D.bl (opIsi t h1 x)) h1) _ = _
  rw [R.bind_assoc]
  congr 1; funext x h1
  split <;> rfl
@[simp] theorem t_isi (a : E) (t : Ty) : (evE F G (.isi a t)).t ρ h = ((evE F G a).v ρ h).bnd (fun x h1 => if x.isF then .bad else .ok (opIsi t h1 x) h1) ⟨⟩ := t_isi0 a t
@[simp] theorem v_isi2 (a : E) : (evE F G (.isi2 a)).v ρ h = ((evE F G a).v ρ h).bnd (fun x h1 => if x.isF then .bad else .ok (.bl (isi2Op h1 x)) h1) ⟨⟩ := id rfl
@[simp] theorem v_isx (a : E) (k : Str) (yes no : List Str) : (evE F G (.isx a k yes no)).v ρ h = ((evE F G a).v ρ h).bnd (fun x h1 => R.opt (isxOp yes no x) h1) ⟨⟩ := id rfl
@[simp] theorem v_fld (a : E) (f : Str) (ks : List Str) : (evE F G (.fld a f ks)).v ρ h = ((evE F G a).v ρ h).bnd (fun x h1 => R.opt (fldOp f ks x) h1) ⟨⟩ := id rfl
theorem t_isi2_0 (a : E) : (evE F G (.isi2 a)).t ρ h = ((evE F G a).v ρ h).bind fun x h1 => if x.isF then .bad else .ok (isi2Op h1 x) h1 := by
  show R.bind (R.bind ((evE F G a).v ρ h) fun x h1 => if x.isF then .bad else .ok (D.bl (isi2Op h1 x)) h1) _ = _
  rw [R.bind_assoc]
  congr 1; funext x h1
  split <;> rfl
@[simp] theorem t_isi2 (a : E) : (evE F G (.isi2 a)).t ρ h = ((evE F G a).v ρ h).bnd (fun x h1 => if x.isF then .bad else .ok (isi2Op h1 x) h1) ⟨⟩ := t_isi2_0 a
@[simp] theorem t_isx (a : E) (k : Str) (yes no : List Str) : (evE F G (.isx a k yes no)).t ρ h = ((evE F G (.isx a k yes no)).v ρ h).bnd (fun x h1 => R.opt (x.tru h1) h1) ⟨⟩ := id rfl
@[simp] theorem t_var (i : Nat) : (evE F G (.var i)).t ρ h = ((evE F G (.var i)).v ρ h).bnd (fun x h1 => R.opt (x.tru h1) h1) ⟨⟩ := id rfl
@[simp] theorem t_con (d : D) : (evE F G (.con d)).t ρ h = R.opt (d.tru h) h := id rfl
@[simp] theorem t_idx (a i : E) : (evE F G (.idx a i)).t ρ h = ((evE F G (.idx a i)).v ρ h).bnd (fun x h1 => R.opt (x.tru h1) h1) ⟨⟩ := id rfl
@[simp] theorem t_call (f : Nat) (es : Es) : (evE F G (.call f es)).t ρ h = ((evE F G (.call f es)).v ρ h).bnd (fun x h1 => R.opt (x.tru h1) h1) ⟨⟩ := id rfl
@[simp] theorem t_callK (f : Nat) (es kes : Es) (ks : List Nat) : (evE F G (.callK f es kes ks)).t ρ h = ((evE F G (.callK f es kes ks)).v ρ h).bnd (fun x h1 => R.opt (x.tru h1) h1) ⟨⟩ := id rfl
@[simp] theorem t_bf (f : Bf) (es : Es) : (evE F G (.bf f es)).t ρ h = ((evE F G (.bf f es)).v ρ h).bnd (fun x h1 => R.opt (x.tru h1) h1) ⟨⟩ := id rfl
@[simp] theorem t_bin (o : BOp) (a b : E) : (evE F G (.bin o a b)).t ρ h = ((evE F G (.bin o a b)).v ρ h).bnd (fun x h1 => R.opt (x.tru h1) h1) ⟨⟩ := id rfl
@[simp] theorem t_chain (o p : COp) (a b c : E) : (evE F G (.chain o p a b c)).t ρ h = ((evE F G (.chain o p a b c)).v ρ h).bnd (fun x h1 => R.opt (x.tru h1) h1) ⟨⟩ := id rfl
@[simp] theorem t_slc (a b c : E) : (evE F G (.slc a b c)).t ρ h = ((evE F G (.slc a b c)).v ρ h).bnd (fun x h1 => R.opt (x.tru h1) h1) ⟨⟩ := id rfl
/-! rows -/
@[simp] theorem l_nil : (evEs F G .nil).l ρ h = .ok [] h := id rfl
@[simp] theorem l_cons (e : E) (es : Es) : (evEs F G (.cons e es)).l ρ h = ((evE F G e).v ρ h).bnd (fun x h1 => ((evEs F G es).l ρ h1).bnd (fun xs h2 => .ok (x :: xs) h2) ⟨⟩) ⟨⟩ := id rfl
@[simp] theorem an_1 (e : E) : (evEs F G (.cons e .nil)).an ρ h = (evE F G e).v ρ h := id rfl
@[simp] theorem on_1 (e : E) : (evEs F G (.cons e .nil)).on ρ h = (evE F G e).v ρ h := id rfl
@[simp] theorem at_1 (e : E) : (evEs F G (.cons e .nil)).at_ ρ h = (evE F G e).t ρ h := id rfl
@[simp] theorem ot_1 (e : E) : (evEs F G (.cons e .nil)).ot ρ h = (evE F G e).t ρ h := id rfl
@[simp] theorem an_2 (e b : E) (es : Es) : (evEs F G (.cons e (.cons b es))).an ρ h = ((evE F G e).v ρ h).bnd (fun x h1 => (vBl x h1).bnd (fun t h2 => if t then (evEs F G (.cons b es)).an ρ h2 else .ok (.bl false) h2) ⟨⟩) ⟨⟩ := id rfl
@[simp] theorem on_2 (e b : E) (es : Es) : (evEs F G (.cons e (.cons b es))).on ρ h = ((evE F G e).v ρ h).bnd (fun x h1 => (vBl x h1).bnd (fun t h2 => if t then .ok (.bl true) h2 else (evEs F G (.cons b es)).on ρ h2) ⟨⟩) ⟨⟩ := id rfl
@[simp] theorem at_2 (e b : E) (es : Es) : (evEs F G (.cons e (.cons b es))).at_ ρ h = ((evE F G e).t ρ h).bnd (fun t h1 => if t then (evEs F G (.cons b es)).at_ ρ h1 else .ok false h1) ⟨⟩ := id rfl
@[simp] theorem ot_2 (e b : E) (es : Es) : (evEs F G (.cons e (.cons b es))).ot ρ h = ((evE F G e).t ρ h).bnd (fun t h1 => if t then .ok true h1 else (evEs F G (.cons b es)).ot ρ h1) ⟨⟩ := id rfl
/-! iterators -/
@[simp] theorem i_ev (e : E) : evI F G (.ev e) ρ h = ((evE F G e).v ρ h).bnd (fun x h1 => R.opt (x.src h1) h1) ⟨⟩ := id rfl
@[simp] theorem i_rng (n : E) : evI F G (.rng n) ρ h = ((evE F G n).v ρ h).bnd (fun x h1 => R.opt (x.isInt.bind fun n => if rngOk 0 n then some ⟨rngD 0 n, none⟩ else none) h1) ⟨⟩ := id rfl
@[simp] theorem i_zip (a b : E) : evI F G (.zip a b) ρ h = ((evE F G a).v ρ h).bnd (fun x h1 => ((evE F G b).v ρ h1).bnd (fun y h2 => R.opt (zipSrc x y) h2) ⟨⟩) ⟨⟩ := id rfl
@[simp] theorem i_enum (a : E) : evI F G (.enum a) ρ h = ((evE F G a).v ρ h).bnd (fun x h1 => R.opt (enumSrc x) h1) ⟨⟩ := id rfl
@[simp] theorem i_rng2 (a b : E) : evI F G (.rng2 a b) ρ h = ((evE F G a).v ρ h).bnd (fun x h1 => ((evE F G b).v ρ h1).bnd (fun y h2 => R.opt (x.isInt.bind fun i => y.isInt.bind fun j => if rngOk i j then some ⟨rngD i j, none⟩ else none) h2) ⟨⟩) ⟨⟩ := id rfl
/-! statements -/
@[simp] theorem s_nil : evSs F G .nil ρ h = .nxt ρ h := id rfl
@[simp] theorem s_cons (s : S) (ss : Ss) : evSs F G (.cons s ss) ρ h = (evS F G s ρ h).thn (evSs F G ss) ⟨⟩ := id rfl
@[simp] theorem s_asg (i : Nat) (e : E) : evS F G (.asg i e) ρ h = ((evE F G e).v ρ h).thn (fun x h1 => .nxt (ρ.set i (some x)) h1) ⟨⟩ := id rfl
@[simp] theorem s_asgLc (i : Nat) (e : E) : evS F G (.asgLc i e) ρ h = ((evE F G e).v ρ h).thn (fun x h1 => .nxt (ρ.set i (some x)) h1) ⟨⟩ := id rfl
@[simp] theorem s_par (i j : Nat) (a b : E) : evS F G (.par i j a b) ρ h = ((evE F G a).v ρ h).thn (fun x h1 => ((evE F G b).v ρ h1).thn (fun y h2 => .nxt ((ρ.set i (some x)).set j (some y)) h2) ⟨⟩) ⟨⟩ := id rfl
@[simp] theorem s_unp (is : List Nat) (e : E) : evS F G (.unp is e) ρ h = ((evE F G e).v ρ h).thn (fun x h1 => RS.opt ((Tg.tu is).put x ρ) h1) ⟨⟩ := id rfl
def R.thnX (r : R α) (ρ : Env) (f : α → Hh → RS) (_ : Lk f) : RS := r.thenX ρ f
@[simp] theorem thnX_ok (a : α) (h : Hh) (ρ : Env) (f : α → Hh → RS) (l : Lk f) : (R.ok a h).thnX ρ f l = f a h := id rfl
@[simp] theorem thnX_err (x : Xc) (h : Hh) (ρ : Env) (f : α → Hh → RS) (l : Lk f) : (R.err x h : R α).thnX ρ f l = .err ρ x h := id rfl
@[simp] theorem s_asgC (i f : Nat) (es : Es) : evS F G (.asgC i f es) ρ h = ((evEs F G es).l ρ h).thn (fun xs h1 => (F f xs h1).thnX ρ (fun x h2 => .nxt (ρ.set i (some x)) h2) ⟨⟩) ⟨⟩ := id rfl
@[simp] theorem s_expC (f : Nat) (es : Es) : evS F G (.expC f es) ρ h = ((evEs F G es).l ρ h).thn (fun xs h1 => (F f xs h1).thnX ρ (fun _ h2 => .nxt ρ h2) ⟨⟩) ⟨⟩ := id rfl
@[simp] theorem s_retC (f : Nat) (es : Es) : evS F G (.retC f es) ρ h = ((evEs F G es).l ρ h).thn (fun xs h1 => (F f xs h1).thnX ρ (fun x h2 => .ret x h2) ⟨⟩) ⟨⟩ := id rfl
@[simp] theorem s_raise (c : Str) : evS F G (.raise_ c) ρ h = .err ρ ⟨c, none⟩ h := id rfl
@[simp] theorem s_try (b : Ss) (c : Str) (yes no : List Str) (s : Ss) : evS F G (.try_ b c yes no s) ρ h = catchS yes no (evSs F G s) (evSs F G b ρ h) := id rfl
@[simp] theorem s_tryAs (b : Ss) (c : Str) (yes no : List Str) (i : Nat) (s : Ss) : evS F G (.tryAs b c yes no i s) ρ h = catchAs yes no i (evSs F G s) (evSs F G b ρ h) := id rfl
@[simp] theorem catA_nxt (yes no : List Str) (i : Nat) (f : Env → Hh → RS) (ρ : Env) (h : Hh) : catchAs yes no i f (.nxt ρ h) = .nxt ρ h := id rfl
@[simp] theorem catA_ret (yes no : List Str) (i : Nat) (f : Env → Hh → RS) (d : D) (h : Hh) : catchAs yes no i f (.ret d h) = .ret d h := id rfl
@[simp] theorem catA_err (yes no : List Str) (i : Nat) (f : Env → Hh → RS) (ρ : Env) (x : Xc) (h : Hh) : catchAs yes no i f (.err ρ x h) = if x.cls ∈ yes then dropS i (f (ρ.set i (some x.d)) h) else if x.cls ∈ no then .err ρ x h else .bad := id rfl
@[simp] theorem drop_nxt (i : Nat) (ρ : Env) (h : Hh) : dropS i (.nxt ρ h) = .nxt (ρ.set i none) h := id rfl
@[simp] theorem drop_ret (i : Nat) (d : D) (h : Hh) : dropS i (.ret d h) = .ret d h := id rfl
@[simp] theorem xd_none (c : Str) : Xc.d ⟨c, none⟩ = .exc c := id rfl
@[simp] theorem xd_some (c f : Str) (d : D) : Xc.d ⟨c, some (f, d)⟩ = .exf c f d := id rfl
@[simp] theorem catch_nxt (yes no : List Str) (f : Env → Hh → RS) (ρ : Env) (h : Hh) : catchS yes no f (.nxt ρ h) = .nxt ρ h := id rfl
@[simp] theorem catch_ret (yes no : List Str) (f : Env → Hh → RS) (d : D) (h : Hh) : catchS yes no f (.ret d h) = .ret d h := id rfl
@[simp] theorem catch_err (yes no : List Str) (f : Env → Hh → RS) (ρ : Env) (x : Xc) (h : Hh) : catchS yes no f (.err ρ x h) = if x.cls ∈ yes then f ρ h else if x.cls ∈ no then .err ρ x h else .bad := id rfl
def stoN (o : Option Hh) (ρ : Env) : RS := match o with
  | some h4 => .nxt ρ h4
  | none => .bad
@[simp] theorem stoN_some (h : Hh) (ρ : Env) : stoN (some h) ρ = .nxt ρ h := id rfl
@[simp] theorem s_sto (o i e : E) : evS F G (.sto o i e) ρ h = ((evE F G e).v ρ h).thn (fun x h1 => ((evE F G o).v ρ h1).thn (fun y h2 => ((evE F G i).v ρ h2).thn (fun z h3 => stoN (stoOp y z x h3) ρ) ⟨⟩) ⟨⟩) ⟨⟩ := id rfl
@[simp] theorem s_exp (e : E) : evS F G (.exp e) ρ h = ((evE F G e).v ρ h).thn (fun _ h1 => .nxt ρ h1) ⟨⟩ := id rfl
@[simp] theorem s_ret (e : E) : evS F G (.ret e) ρ h = ((evE F G e).v ρ h).thn (fun x h1 => .ret x h1) ⟨⟩ := id rfl
@[simp] theorem s_retN : evS F G .retN ρ h = .ret .non h := id rfl
@[simp] theorem s_ite (c : E) (a b : Ss) : evS F G (.ite c a b) ρ h = ((evE F G c).t ρ h).thn (fun t h1 => if t then evSs F G a ρ h1 else evSs F G b ρ h1) ⟨⟩ := id rfl
@[simp] theorem s_for (t : Tg) (it : I) (b : Ss) : evS F G (.for_ t it b) ρ h = (evI F G it ρ h).thn (fun s h1 => forLoop s.good t (evSs F G b) s.items ρ h1) ⟨⟩ := id rfl
@[simp] theorem s_whl (c : E) (b : Ss) : evS F G (.whl c b) ρ h = whlLoop (evE F G c).t (evSs F G b) wfuel ρ h := id rfl
@[simp] theorem v_mthIx (o : E) (es : Es) : (evE F G (.mth .index o es)).v ρ h = ((evE F G o).v ρ h).bnd (fun x h1 => if (x.ixs h1).isSome then ((evEs F G es).l ρ h1).bnd (fun xs h2 => R.opt (ixD x h2 xs) h2) ⟨⟩ else .bad) ⟨⟩ := id rfl
@[simp] theorem v_dcl (t : Tg) (it : I) (c k v : E) : (evE F G (.dcl t it c k v)).v ρ h = (evI F G it ρ h).bnd (fun s h1 => if sizeOk s.items.length then (dcLoop s.good (dcTurn t (evE F G c) (evE F G k) (evE F G v) ρ) s.items [] h1).bnd newDct ⟨⟩ else .bad) ⟨⟩ := id rfl
@[simp] theorem v_trng (a : E) : (evE F G (.trng a)).v ρ h = ((evE F G a).v ρ h).bnd (fun x h1 => R.opt (trngOp x) h1) ⟨⟩ := id rfl
@[simp] theorem v_sset (a : E) : (evE F G (.sset a)).v ρ h = ((evE F G a).v ρ h).bnd (fun x h1 => R.opt (ssetOp h1 x) h1) ⟨⟩ := id rfl
def augN (o : Option Hh) (r : Nat) (i : Nat) (ρ : Env) : RS := match o with
  | some h2 => .nxt (ρ.set i (some (.ref r))) h2
  | none => .bad
@[simp] theorem augN_some (h : Hh) (r i : Nat) (ρ : Env) : augN (some h) r i ρ = .nxt (ρ.set i (some (.ref r))) h := id rfl
theorem s_augL {i r : Nat} (e : E) (hi : ρ[i]? = some (some (.ref r))) : evS F G (.augL i e) ρ h = ((evE F G e).v ρ h).thn (fun y h1 => augN (augLOp r y h1) r i ρ) ⟨⟩ := by
  show (match ρ[i]? with | some (some (.ref r)) => ((evE F G e).v ρ h).then_ fun y h1 => (match augLOp r y h1 with | some h2 => RS.nxt (ρ.set i (some (.ref r))) h2 | none => .bad) | _ => .bad) = _
  rw [hi]
  show ((evE F G e).v ρ h).then_ _ = _
  cases (evE F G e).v ρ h with
  | ok y h1 => show (match augLOp r y h1 with | some h2 => RS.nxt (ρ.set i (some (.ref r))) h2 | none => .bad) = augN (augLOp r y h1) r i ρ; cases augLOp r y h1 <;> rfl
  | bad => rfl
  | err _ _ => rfl
@[simp] theorem v_mthAp (o : E) (es : Es) : (evE F G (.mth .append o es)).v ρ h = ((evE F G o).v ρ h).bnd (fun x h1 => if x.isL h1 then ((evEs F G es).l ρ h1).bnd (fun xs h2 => mthOp .append x xs h2) ⟨⟩ else .bad) ⟨⟩ := id rfl
@[simp] theorem v_mthPop (o : E) (es : Es) : (evE F G (.mth .pop o es)).v ρ h = ((evE F G o).v ρ h).bnd (fun x h1 => if x.isL h1 then ((evEs F G es).l ρ h1).bnd (fun xs h2 => mthOp .pop x xs h2) ⟨⟩ else .bad) ⟨⟩ := id rfl
@[simp] theorem v_mthPopA (o : E) (es : Es) : (evE F G (.mth .popAt o es)).v ρ h = ((evE F G o).v ρ h).bnd (fun x h1 => if x.isL h1 then ((evEs F G es).l ρ h1).bnd (fun xs h2 => mthOp .popAt x xs h2) ⟨⟩ else .bad) ⟨⟩ := id rfl
end
/-! operations -/
@[simp] theorem ofString_inj {a b : String} : (Str.ofString a = Str.ofString b) ↔ a = b := by
  refine ⟨fun e => ?_, fun e => by rw [e]⟩
  rw [Str.ofString_eq_toList, Str.ofString_eq_toList] at e
  have e1 : a.toList.map Char.toNat = b.toList.map Char.toNat := by
    have e2 := congrArg (fun s : Str => s.cps.toList) e
    simpa using e2
  have e3 : a.toList = b.toList := by
    have inj : ∀ (x y : List Char), x.map Char.toNat = y.map Char.toNat → x = y := by
      intro x
      induction x with
      | nil => intro y h; cases y with | nil => rfl | cons _ _ => simp at h
      | cons c x ih =>
        intro y h
        cases y with
        | nil => simp at h
        | cons d y =>
          (simp only [List.map_cons, List.cons.injEq] at h)
          rw [ih y h.2, Char.ext (UInt32.toNat_inj.mp h.1)]
    exact inj _ _ e1
  exact String.toList_inj.mp e3
section
variable {α : Type} {a b c d e : α} {xs : List α} {h : Hh}
@[simp] theorem atI_0 : L2.atI (a :: xs) 0 = some a := L2.atI_nat (j := 0) rfl
@[simp] theorem atI_1 : L2.atI (a :: b :: xs) 1 = some b := L2.atI_nat (j := 1) rfl
@[simp] theorem atI_2 : L2.atI (a :: b :: c :: xs) 2 = some c := L2.atI_nat (j := 2) rfl
@[simp] theorem atI_3 : L2.atI (a :: b :: c :: d :: xs) 3 = some d := L2.atI_nat (j := 3) rfl
@[simp] theorem atI_4 : L2.atI (a :: b :: c :: d :: e :: xs) 4 = some e := L2.atI_nat (j := 4) rfl
@[simp] theorem sizeOk_le {n : Nat} : sizeOk n = decide (n ≤ 16777216) := id rfl
@[simp] theorem bin_addI (i j : Int) : opBin .add h (.int i) (.int j) = some (.int (i + j)) := id rfl
@[simp] theorem bin_subI (i j : Int) : opBin .sub h (.int i) (.int j) = some (.int (i - j)) := id rfl
@[simp] theorem bin_addT (xs ys : List D) : opBin .add h (.tup xs) (.tup ys) = if sizeOk (xs.length + ys.length) then some (.tup (xs ++ ys)) else none := id rfl
@[simp] theorem bin_addL (xs ys : List D) : opBin .add h (.lst xs) (.lst ys) = if sizeOk (xs.length + ys.length) then some (.lst (xs ++ ys)) else none := id rfl
@[simp] theorem cmp_ltI (i j : Int) : opCmp .lt h (.int i) (.int j) = some (decide (i < j)) := id rfl
@[simp] theorem cmp_leI (i j : Int) : opCmp .le h (.int i) (.int j) = some (decide (i ≤ j)) := id rfl
@[simp] theorem cmp_gtI (i j : Int) : opCmp .gt h (.int i) (.int j) = some (decide (j < i)) := id rfl
@[simp] theorem cmp_geI (i j : Int) : opCmp .ge h (.int i) (.int j) = some (decide (j ≤ i)) := id rfl
@[simp] theorem cmp_eqS (x y : Str) : opCmp .eq h (.str x) (.str y) = some (decide (x = y)) := id rfl
@[simp] theorem cmp_neS (x y : Str) : opCmp .ne h (.str x) (.str y) = some (!decide (x = y)) := id rfl
@[simp] theorem cmp_eqI (i j : Int) : opCmp .eq h (.int i) (.int j) = some (i == j) := id rfl
@[simp] theorem cmp_neI (i j : Int) : opCmp .ne h (.int i) (.int j) = some (!(i == j)) := id rfl
@[simp] theorem cmp_eqB (i j : Bool) : opCmp .eq h (.bl i) (.bl j) = some (i == j) := by cases i <;> cases j <;> rfl
@[simp] theorem cmp_neB (i j : Bool) : opCmp .ne h (.bl i) (.bl j) = some (!(i == j)) := by cases i <;> cases j <;> rfl
@[simp] theorem cmp_isN (x : D) : opCmp .is h x .non = some x.isNon := id rfl
@[simp] theorem cmp_isB (x : D) (b : Bool) : opCmp .is h x (.bl b) = some (x.eqBl b) := id rfl
@[simp] theorem cmp_isnN (x : D) : opCmp .isn h x .non = some (!x.isNon) := id rfl
@[simp] theorem idx_tup (xs : List D) (i : Int) : opIdx h (.tup xs) (.int i) = L2.atI xs i := id rfl
@[simp] theorem idx_lst (xs : List D) (i : Int) : opIdx h (.lst xs) (.int i) = L2.atI xs i := id rfl
@[simp] theorem idx_fz (xs : List D) (i : Int) : opIdx h (.fz xs) (.int i) = L2.atI xs i := id rfl
@[simp] theorem vBl_bl (b : Bool) : vBl (.bl b) h = .ok b h := id rfl
@[simp] theorem tru_bl (b : Bool) : (D.bl b).tru h = some b := id rfl
@[simp] theorem tru_int (i : Int) : (D.int i).tru h = some (i != 0) := id rfl
@[simp] theorem tru_tup (xs : List D) : (D.tup xs).tru h = some (!xs.isEmpty) := id rfl
@[simp] theorem src_tup (xs : List D) : (D.tup xs).src h = some ⟨xs, none⟩ := id rfl
@[simp] theorem src_lst (xs : List D) : (D.lst xs).src h = some ⟨xs, none⟩ := id rfl
@[simp] theorem src_ftup (xs : List D) : (D.ftup xs).src h = some ⟨xs, none⟩ := id rfl
@[simp] theorem src_fz (xs : List D) : (D.fz xs).src h = some ⟨xs, none⟩ := id rfl
@[simp] theorem good_none (xs : List D) : (Src.mk xs none).good h = true := id rfl
@[simp] theorem goodf_none (xs : List D) : (Src.mk xs none).good = fun _ => true := id rfl
@[simp] theorem isI_int (i : Int) : (D.int i).isInt = some i := id rfl
@[simp] theorem bf_tupL (xs : List D) : opBf .tuple h [.lst xs] = some (.tup xs) := id rfl
@[simp] theorem bf_tupT (xs : List D) : opBf .tuple h [.tup xs] = some (.tup xs) := id rfl
@[simp] theorem bf_lenT (xs : List D) : opBf .len h [.tup xs] = some (.int xs.length) := id rfl
@[simp] theorem bf_lenL (xs : List D) : opBf .len h [.lst xs] = some (.int xs.length) := id rfl
@[simp] theorem bf_lenF (xs : List D) : opBf .len h [.fz xs] = some (.int xs.length) := id rfl
@[simp] theorem bf_intI (i : Int) : opBf .int h [.int i] = some (.int i) := id rfl
@[simp] theorem bf_intB (b : Bool) : opBf .int h [.bl b] = some (.int (if b then 1 else 0)) := id rfl
@[simp] theorem zip_tt (xs ys : List D) : zipSrc (.tup xs) (.tup ys) = some ⟨zipD xs ys, none⟩ := id rfl
@[simp] theorem zip_ll (xs ys : List D) : zipSrc (.lst xs) (.lst ys) = some ⟨zipD xs ys, none⟩ := id rfl
@[simp] theorem part_miss (p : P) (ρ : Env) : vPart true p ρ h = .ok none h := id rfl
@[simp] theorem part_some (p : P) (ρ : Env) : vPart false p ρ h = (p.v ρ h).bind fun d h1 => R.opt (d.isInt.map some) h1 := id rfl
@[simp] theorem miss_t : E.isMiss .miss = true := id rfl
@[simp] theorem miss_con (d : D) : E.isMiss (.con d) = false := id rfl
@[simp] theorem miss_var (d : Nat) : E.isMiss (.var d) = false := id rfl
@[simp] theorem miss_bin (o a b) : E.isMiss (.bin o a b) = false := id rfl
@[simp] theorem miss_neg (a) : E.isMiss (.neg a) = false := id rfl
theorem cok_shp {a b : D} (h1 : a.shp = true) (h2 : b.shp = true) : D.cok a b = true := by unfold D.cok; rw [h1, h2]; rfl
theorem cok_min {a b : D} (h1 : a.lay = true) (h2 : b.lay = true) (h3 : min a.dep b.dep ≤ 64) : D.cok a b = true := by unfold D.cok; rw [h1, h2, decide_eq_true h3, Bool.and_self, Bool.and_self, Bool.or_true]
@[simp] theorem in_nil (x : D) : opCmp .inn h x (.tup []) = (if x.shp then some false else none) := by
  show (if x.shp && (D.tup []).shp then some false else none) = _
  have : (D.tup []).shp = true := by decide
  rw [this, Bool.and_true]
@[simp] theorem strOk_lit (s : String) : PyData.strOk (Str.ofString s) = true := by
  rw [Str.ofString_eq_toList]
  unfold PyData.strOk
  simp only [List.all_toArray, List.all_map, List.all_eq_true, Function.comp]
  intro c _
  have hv : c.val.toNat.isValidChar := c.valid
  have : c.val.toNat < 1114112 := by
    rcases hv with z | z
    · omega
    · exact z.2
  exact decide_eq_true this
@[simp] theorem eqv_str (x y : Str) : (D.str x).eqv (.str y) = decide (x = y) := id rfl
@[simp] theorem eqv_int (x y : Int) : (D.int x).eqv (.int y) = (x == y) := id rfl
@[simp] theorem shp_str (x : Str) : (D.str x).shp = PyData.strOk x := by unfold D.shp D.lay D.dep; simp
@[simp] theorem shp_int (x : Int) : (D.int x).shp = true := id rfl
@[simp] theorem shp_bl (x : Bool) : (D.bl x).shp = true := id rfl
@[simp] theorem shp_non : D.non.shp = true := id rfl
theorem deps_le {n : Nat} : ∀ {xs : List D}, D.deps xs ≤ n ↔ ∀ x ∈ xs, x.dep ≤ n
  | [] => by simp [D.deps]
  | x :: xs => by simp [D.deps, Nat.max_le, deps_le (xs := xs)]
theorem lays_iff : ∀ {xs : List D}, D.lays xs = true ↔ ∀ x ∈ xs, x.lay = true
  | [] => by simp [D.lays]
  | x :: xs => by simp [D.lays, lays_iff (xs := xs)]
/-- a flat thing -/
def D.flat : D → Bool
  | .str x => PyData.strOk x
  | .int _ => true
  | .bl _ => true
  | .non => true
  | _ => false
theorem shp_flats {xs : List D} (h : xs.all D.flat = true) : (D.tup xs).shp = true := by
  have q : ∀ x ∈ xs, x.lay = true ∧ x.dep = 0 := fun x hx => by
    have := List.all_eq_true.mp h x hx
    cases x <;> first | exact ⟨rfl, rfl⟩ | exact ⟨this, rfl⟩ | cases this
  unfold D.shp D.lay D.dep
  rw [lays_iff.mpr fun x hx => (q x hx).1, Bool.true_and]
  have : D.deps xs ≤ 0 := deps_le.mpr fun x hx => Nat.le_of_eq (q x hx).2
  (exact decide_eq_true (by omega))
@[simp] theorem shp_strs0 : (D.tup []).shp = true := by decide
@[simp] theorem flat_str (x : Str) : (D.str x).flat = PyData.strOk x := id rfl
@[simp] theorem flat_int (x : Int) : (D.int x).flat = true := id rfl
theorem in_tup (x : D) (ys : List D) : opCmp .inn h x (.tup ys) = if x.shp && (D.tup ys).shp then some (ys.any fun y => y.eqv x) else none := id rfl
theorem nin_eq (x : D) (y : D) : opCmp .nin h x y = (opCmp .inn h x y).map (!·) := id rfl
@[simp] theorem in_strs1 (x y : Str) : opCmp .inn h (.str x) (.tup [.str y]) = if PyData.strOk x && (D.tup [.str y]).shp then some (decide (y = x)) else none := by rw [in_tup]; simp
@[simp] theorem in_strs2 (x : Str) (a b : String) : opCmp .inn h (.str x) (.tup [.str (.ofString a), .str (.ofString b)]) = if PyData.strOk x then some (decide (Str.ofString a = x) || decide (Str.ofString b = x)) else none := by rw [in_tup, shp_flats (by simp)]; simp
@[simp] theorem in_strs3 (x : Str) (a b c : String) : opCmp .inn h (.str x) (.tup [.str (.ofString a), .str (.ofString b), .str (.ofString c)]) = if PyData.strOk x then some (decide (Str.ofString a = x) || (decide (Str.ofString b = x) || decide (Str.ofString c = x))) else none := by rw [in_tup, shp_flats (by simp)]; simp
@[simp] theorem nin_strs2 (x : Str) (a b : String) : opCmp .nin h (.str x) (.tup [.str (.ofString a), .str (.ofString b)]) = if PyData.strOk x then some (!(decide (Str.ofString a = x) || decide (Str.ofString b = x))) else none := by rw [nin_eq, in_strs2]; split <;> rfl
@[simp] theorem nin_strs3 (x : Str) (a b c : String) : opCmp .nin h (.str x) (.tup [.str (.ofString a), .str (.ofString b), .str (.ofString c)]) = if PyData.strOk x then some (!(decide (Str.ofString a = x) || (decide (Str.ofString b = x) || decide (Str.ofString c = x)))) else none := by rw [nin_eq, in_strs3]; split <;> rfl
@[simp] theorem opt_ite {c : Prop} [Decidable c] {o p : Option α} : R.opt (if c then o else p) h = if c then R.opt o h else R.opt p h := by split <;> rfl
@[simp] theorem slc_tup (xs : List D) (l u : Option Int) : opSlc h (.tup xs) l u = some (.tup (cutD xs l u)) := id rfl
@[simp] theorem slc_lst (xs : List D) (l u : Option Int) : opSlc h (.lst xs) l u = some (.lst (cutD xs l u)) := id rfl
@[simp] theorem cut_1 (x : D) (xs : List D) : cutD (x :: xs) (some 1) none = xs := by
  have e : HT.sIx (xs.length + 1) 0 (some 1) = 1 := by show min (1 : Int).toNat (xs.length + 1) = 1; simp
  unfold cutD; simp only [List.length_cons, e, HT.sIx_none, List.drop_succ_cons, List.drop_zero, Nat.add_sub_cancel, List.take_length]
@[simp] theorem cut_2 (x y : D) (xs : List D) : cutD (x :: y :: xs) (some 2) none = xs := by
  have e : HT.sIx (xs.length + 1 + 1) 0 (some 2) = 2 := by show min (2 : Int).toNat (xs.length + 1 + 1) = 2; simp
  unfold cutD; simp only [List.length_cons, e, HT.sIx_none, List.drop_succ_cons, List.drop_zero]
  rw [show xs.length + 1 + 1 - 2 = xs.length from by omega, List.take_length]
@[simp] theorem cut_3 (x y z : D) (xs : List D) : cutD (x :: y :: z :: xs) (some 3) none = xs := by
  have e : HT.sIx (xs.length + 1 + 1 + 1) 0 (some 3) = 3 := by show min (3 : Int).toNat (xs.length + 1 + 1 + 1) = 3; simp
  unfold cutD; simp only [List.length_cons, e, HT.sIx_none, List.drop_succ_cons, List.drop_zero]
  rw [show xs.length + 1 + 1 + 1 - 3 = xs.length from by omega, List.take_length]
theorem cut_all (xs : List D) : cutD xs none none = xs := by
  unfold cutD; simp only [HT.sIx_none, List.drop_zero, Nat.sub_zero, List.take_length]
theorem cut_take (xs : List D) (n : Nat) : cutD xs none (some (n : Int)) = xs.take n := by
  unfold cutD; rw [HT.sIx_none, HT.sIx_nat, List.drop_zero, Nat.sub_zero, List.take_eq_take_iff]; omega
theorem cut_drop (xs : List D) (n : Nat) : cutD xs (some (n : Int)) none = xs.drop n := by
  unfold cutD; rw [HT.sIx_none, HT.sIx_nat]
  by_cases hn : n ≤ xs.length
  · rw [Nat.min_eq_left hn, List.take_of_length_le (by simp)]
  · rw [Nat.min_eq_right (by omega), List.drop_of_length_le (Nat.le_refl _), List.drop_of_length_le (by omega), List.take_nil]
@[simp] theorem cut_init (xs : List D) (x : D) : cutD (xs ++ [x]) none (some (-1)) = xs := by
  have e : HT.sIx (xs ++ [x]).length (xs ++ [x]).length (some (-1)) = xs.length := by
    show ((-1 : Int) + ((xs ++ [x]).length : Int)).toNat = _
    rw [List.length_append]; simp only [List.length_cons, List.length_nil]; omega
  unfold cutD
  rw [e, HT.sIx_none, List.drop_zero, Nat.sub_zero, List.take_left']
  rfl
@[simp] theorem atI_last (xs : List α) (v : α) : L2.atI (xs ++ [v]) (-1) = some v := L2.atI_last xs v
end
end PV
end

section
set_option maxRecDepth 100000
namespace K00
open PySem PySem.Spec PyProof.Rows L2 PV
-- BAD linked: check_part(part) (call check_part)
-- BAD linked: blocks = blocks + tuple([block_with(block, labels) for block in part[3]]) (call block_with)
-- BAD linked: return (max([part[0] for part in parts]), blocks) (call max)
-- BAD octets_of: found = one_octets(code[0], 'n', MOST_DEEP) + number_octets(len(code[1])) (call one_octets)
-- BAD octets_of: found += block_octets(block) (call block_octets)
-- BAD number_from: group *= GROUP (*=)
-- BAD code_told: block, at = block_from(octets, at) (call block_from)
abbrev b_is_integer : Ss := .cons (.ret (.and (.isi (.var 0) .int) (.cons (.not (.isi (.var 0) .bl)) .nil))) .nil
abbrev f_is_integer : Fn := { name := "is_integer", N := ["value"], P := ["value"], frz := false, body := b_is_integer }
abbrev b_is_between : Ss := .cons (.ret (.and (.call 0 (.cons (.var 1) .nil)) (.cons (.chain .le .le (.var 0) (.var 1) (.var 2)) .nil))) .nil
abbrev f_is_between : Fn := { name := "is_between", N := ["least", "value", "most"], P := ["least", "value", "most"], frz := false, body := b_is_between }
abbrev b_is_tuple_of : Ss := .cons (.ret (.and (.isi (.var 1) .tup) (.cons (.cmp .eq (.bf .len (.cons (.var 1) .nil)) (.var 0)) .nil))) .nil
abbrev f_is_tuple_of : Fn := { name := "is_tuple_of", N := ["length", "value"], P := ["length", "value"], frz := false, body := b_is_tuple_of }
abbrev b_handed_out : Ss := .cons (.par 1 2 (.dic0) (.con (.int 1))) (.cons (.for_ (.v 3) (.ev (.var 0)) (.cons (.for_ (.tu [4, 5]) (.ev (.idx (.var 3) (.con (.int 2)))) (.cons (.ite (.cmp .inn (.var 4) (.var 1)) (.cons (.raiseF "Twice" "word" (.var 4)) .nil) (.nil)) (.cons (.sto (.var 1) (.var 4) (.tup (.cons (.bin .add (.var 2) (.var 5)) (.cons (.slc (.idx (.idx (.var 3) (.con (.int 3))) (.var 5)) (.miss) (.con (.int 2))) .nil)))) .nil))) (.cons (.aug 2 .add (.bf .len (.cons (.idx (.var 3) (.con (.int 3))) .nil))) .nil))) (.cons (.ret (.var 1)) .nil))
abbrev f_handed_out : Fn := { name := "handed_out", N := ["parts", "found", "first", "part", "name", "at"], P := ["parts"], frz := false, body := b_handed_out }
abbrev i_linked_0 : I := .rng (.bf .len (.cons (.idx (.var 1) (.con (.int 3))) .nil))
abbrev x_linked_0 : E := .bin .add (.bf .len (.cons (.var 3) .nil)) (.var 8)
abbrev c_linked_0 : E := .miss
abbrev e_linked_0 : E := .lc (.v 8) i_linked_0 c_linked_0 x_linked_0
abbrev i_linked_1 : I := .ev (.idx (.var 1) (.con (.int 1)))
abbrev x_linked_1 : E := .idx (.idx (.var 2) (.idx (.var 10) (.con (.int 0)))) (.con (.int 0))
abbrev c_linked_1 : E := .miss
abbrev e_linked_1 : E := .lc (.v 10) i_linked_1 c_linked_1 x_linked_1
abbrev b_linked : Ss := .cons (.ite (.not (.isi (.var 0) .tup)) (.cons (.raise_ "InvalidPart") .nil) (.nil)) (.cons (.for_ (.v 1) (.ev (.var 0)) (.cons (.bad) .nil)) (.cons (.asg 2 (.call 3 (.cons (.var 0) .nil))) (.cons (.ite (.or (.cmp .nin (.glo 0) (.var 2)) (.cons (.cmp .ne (.idx (.idx (.var 2) (.glo 0)) (.con (.int 1))) (.tup (.cons (.con (.int 0)) (.cons (.tup (.nil)) .nil)))) .nil)) (.cons (.raiseF "NotMet" "word" (.glo 0)) .nil) (.nil)) (.cons (.asg 3 (.tup (.cons (.tup (.cons (.con (.int 0)) (.cons (.tup (.nil)) (.cons (.tup (.nil)) (.cons (.tup (.cons (.con (.str "jump")) (.cons (.tup (.cons (.con (.str "label")) (.cons (.idx (.idx (.var 2) (.glo 0)) (.con (.int 0))) .nil))) .nil))) .nil))))) .nil))) (.cons (.for_ (.v 1) (.ev (.var 0)) (.cons (.for_ (.tu [4, 5, 6]) (.ev (.idx (.var 1) (.con (.int 1)))) (.cons (.ite (.or (.cmp .nin (.var 4) (.var 2)) (.cons (.cmp .ne (.idx (.idx (.var 2) (.var 4)) (.con (.int 1))) (.tup (.cons (.var 5) (.cons (.var 6) .nil)))) .nil)) (.cons (.raiseF "NotMet" "word" (.var 4)) .nil) (.nil)) .nil)) (.cons (.asgLc 7 (e_linked_0)) (.cons (.asg 9 (.bin .add (e_linked_1) (.var 7))) (.cons (.bad) .nil))))) (.cons (.bad) .nil))))))
abbrev f_linked : Fn := { name := "linked", N := ["parts", "part", "table", "blocks", "name", "n", "regs", "own", "k", "labels", "ask", "block"], P := ["parts"], frz := false, body := b_linked }
abbrev b_check_form_octets : Ss := .cons (.ite (.not (.var 0)) (.cons (.raise_ "InvalidPart") .nil) (.nil)) .nil
abbrev f_check_form_octets : Fn := { name := "check_form_octets", N := ["value"], P := ["value"], frz := false, body := b_check_form_octets, dn := "check_form" }
abbrev b_octets_of : Ss := .cons (.expC 5 (.cons (.and (.call 2 (.cons (.con (.int 2)) (.cons (.var 0) .nil))) (.cons (.isi (.idx (.var 0) (.con (.int 1))) .tup) .nil)) .nil)) (.cons (.bad) (.cons (.for_ (.v 2) (.ev (.idx (.var 0) (.con (.int 1)))) (.cons (.bad) .nil)) (.cons (.ret (.bf .tuple (.cons (.var 1) .nil))) .nil)))
abbrev f_octets_of : Fn := { name := "octets_of", N := ["code", "found", "block"], P := ["code"], frz := false, body := b_octets_of }
abbrev b_octet_at : Ss := .cons (.ite (.or (.cmp .ge (.var 1) (.bf .len (.cons (.var 0) .nil))) (.cons (.not (.call 1 (.cons (.con (.int 0)) (.cons (.idx (.var 0) (.var 1)) (.cons (.var 2) .nil))))) .nil)) (.cons (.raiseF "InvalidOctets" "index" (.var 1)) .nil) (.nil)) (.cons (.ret (.idx (.var 0) (.var 1))) .nil)
abbrev f_octet_at : Fn := { name := "octet_at", N := ["octets", "at", "most"], P := ["octets", "at", "most"], frz := false, body := b_octet_at }
abbrev b_number_from : Ss := .cons (.unp [3, 4] (.tup (.cons (.con (.int 0)) (.cons (.con (.int 1)) .nil)))) (.cons (.for_ (.v 5) (.rng (.glo 2)) (.cons (.asg 6 (.call 7 (.cons (.var 0) (.cons (.bin .add (.var 1) (.var 5)) (.cons (.ite (.cmp .lt (.bin .add (.var 5) (.con (.int 1))) (.glo 2)) (.con (.int 255)) (.var 2)) .nil))))) (.cons (.aug 3 .add (.bin .mul (.bin .mod (.var 6) (.glo 1)) (.var 4))) (.cons (.ite (.cmp .lt (.var 6) (.glo 1)) (.cons (.ite (.and (.cmp .eq (.var 6) (.con (.int 0))) (.cons (.cmp .gt (.var 5) (.con (.int 0))) .nil)) (.cons (.raiseF "InvalidOctets" "index" (.bin .add (.var 1) (.var 5))) .nil) (.nil)) (.cons (.ret (.tup (.cons (.var 3) (.cons (.bin .add (.bin .add (.var 1) (.var 5)) (.con (.int 1))) .nil)))) .nil)) (.nil)) (.cons (.bad) .nil))))) (.cons (.raiseF "InvalidOctets" "index" (.bin .sub (.bin .add (.var 1) (.glo 2)) (.con (.int 1)))) .nil))
abbrev f_number_from : Fn := { name := "number_from", N := ["octets", "at", "last", "number", "group", "k", "octet"], P := ["octets", "at", "last"], frz := false, body := b_number_from }
abbrev b_code_told : Ss := .cons (.ite (.not (.isi (.var 0) .tup)) (.cons (.raiseF "InvalidOctets" "index" (.con (.int 0))) .nil) (.nil)) (.cons (.unp [1, 2] (.call 8 (.cons (.var 0) (.cons (.con (.int 0)) (.cons (.bin .sub (.glo 1) (.con (.int 1))) .nil))))) (.cons (.unp [3, 2] (.call 8 (.cons (.var 0) (.cons (.var 2) (.cons (.bin .sub (.glo 1) (.con (.int 1))) .nil))))) (.cons (.asg 4 (.new (.lst (.nil)))) (.cons (.whl (.cmp .lt (.bf .len (.cons (.var 4) .nil)) (.var 3)) (.cons (.bad) (.cons (.exp (.mth .append (.var 4) (.cons (.var 5) .nil))) .nil))) (.cons (.ite (.cmp .lt (.var 2) (.bf .len (.cons (.var 0) .nil))) (.cons (.raiseF "InvalidOctets" "index" (.var 2)) .nil) (.nil)) (.cons (.ret (.tup (.cons (.var 1) (.cons (.bf .tuple (.cons (.var 4) .nil)) .nil)))) .nil))))))
abbrev f_code_told : Fn := { name := "code_told", N := ["octets", "registers", "at", "many", "blocks", "block"], P := ["octets"], frz := false, body := b_code_told }
abbrev b__law_raised : Ss := .cons (.ite (.cmp .eq (.var 0) (.con (.int 0))) (.cons (.raiseE "InvalidKind" (.var 1)) .nil) (.nil)) (.cons (.ite (.cmp .eq (.var 0) (.con (.int 1))) (.cons (.raiseE "InvalidCount" (.var 1)) .nil) (.nil)) (.cons (.ite (.cmp .eq (.var 0) (.con (.int 2))) (.cons (.raiseE "InvalidPart" (.var 1)) .nil) (.nil)) (.cons (.ite (.cmp .eq (.var 0) (.con (.int 3))) (.cons (.raiseE "Refused" (.var 1)) .nil) (.nil)) (.cons (.ite (.cmp .eq (.var 0) (.con (.int 4))) (.cons (.raiseF "InvalidText" "index" (.var 1)) .nil) (.nil)) (.cons (.ite (.cmp .eq (.var 0) (.con (.int 5))) (.cons (.raiseF "InvalidOctets" "index" (.var 1)) .nil) (.nil)) (.cons (.ite (.cmp .eq (.var 0) (.con (.int 6))) (.cons (.raiseF "InvalidPaper" "index" (.var 1)) .nil) (.nil)) (.cons (.ite (.cmp .eq (.var 0) (.con (.int 7))) (.cons (.raiseF "IllKinded" "place" (.var 1)) .nil) (.nil)) (.cons (.ite (.cmp .eq (.var 0) (.con (.int 8))) (.cons (.raiseF "Stuck" "place" (.var 1)) .nil) (.nil)) (.cons (.ite (.cmp .eq (.var 0) (.con (.int 9))) (.cons (.raiseF "Unfit" "place" (.var 1)) .nil) (.nil)) (.cons (.ite (.cmp .eq (.var 0) (.con (.int 10))) (.cons (.raiseF "Clash" "places" (.var 1)) .nil) (.nil)) (.cons (.ite (.cmp .eq (.var 0) (.con (.int 11))) (.cons (.raiseF "Unknown" "word" (.var 1)) .nil) (.nil)) (.cons (.ite (.cmp .eq (.var 0) (.con (.int 12))) (.cons (.raiseF "NotMet" "word" (.var 1)) .nil) (.nil)) (.cons (.ite (.cmp .eq (.var 0) (.con (.int 13))) (.cons (.raiseF "Twice" "word" (.var 1)) .nil) (.nil)) (.cons (.ite (.cmp .eq (.var 0) (.con (.int 14))) (.cons (.raiseF "TooMany" "count" (.var 1)) .nil) (.nil)) (.cons (.ite (.cmp .eq (.var 0) (.con (.int 15))) (.cons (.raiseF "InvalidCommand" "index" (.var 1)) .nil) (.nil)) .nil)))))))))))))))
abbrev f__law_raised : Fn := { name := "_law_raised", N := ["way", "thing"], P := ["way", "thing"], frz := false, body := b__law_raised }
abbrev b__law_marks : Ss := .cons (.asg 1 (.lst (.nil))) (.cons (.asg 1 (.bin .add (.var 1) (.lst (.cons (.isx (.var 0) "InvalidKind" ["InvalidKind"] ["InvalidCount", "InvalidPart", "Refused", "InvalidText", "InvalidOctets", "InvalidPaper", "IllKinded", "Stuck", "Unfit", "Clash", "Unknown", "NotMet", "Twice", "TooMany", "InvalidCommand", "CarriedError"]) (.cons (.isx (.var 0) "InvalidCount" ["InvalidCount"] ["InvalidKind", "InvalidPart", "Refused", "InvalidText", "InvalidOctets", "InvalidPaper", "IllKinded", "Stuck", "Unfit", "Clash", "Unknown", "NotMet", "Twice", "TooMany", "InvalidCommand", "CarriedError"]) (.cons (.isx (.var 0) "InvalidPart" ["InvalidPart"] ["InvalidKind", "InvalidCount", "Refused", "InvalidText", "InvalidOctets", "InvalidPaper", "IllKinded", "Stuck", "Unfit", "Clash", "Unknown", "NotMet", "Twice", "TooMany", "InvalidCommand", "CarriedError"]) .nil)))))) (.cons (.asg 1 (.bin .add (.var 1) (.lst (.cons (.isx (.var 0) "Refused" ["Refused"] ["InvalidKind", "InvalidCount", "InvalidPart", "InvalidText", "InvalidOctets", "InvalidPaper", "IllKinded", "Stuck", "Unfit", "Clash", "Unknown", "NotMet", "Twice", "TooMany", "InvalidCommand", "CarriedError"]) (.cons (.isx (.var 0) "InvalidText" ["InvalidText"] ["InvalidKind", "InvalidCount", "InvalidPart", "Refused", "InvalidOctets", "InvalidPaper", "IllKinded", "Stuck", "Unfit", "Clash", "Unknown", "NotMet", "Twice", "TooMany", "InvalidCommand", "CarriedError"]) (.cons (.isx (.var 0) "InvalidOctets" ["InvalidOctets"] ["InvalidKind", "InvalidCount", "InvalidPart", "Refused", "InvalidText", "InvalidPaper", "IllKinded", "Stuck", "Unfit", "Clash", "Unknown", "NotMet", "Twice", "TooMany", "InvalidCommand", "CarriedError"]) .nil)))))) (.cons (.asg 1 (.bin .add (.var 1) (.lst (.cons (.isx (.var 0) "InvalidPaper" ["InvalidPaper"] ["InvalidKind", "InvalidCount", "InvalidPart", "Refused", "InvalidText", "InvalidOctets", "IllKinded", "Stuck", "Unfit", "Clash", "Unknown", "NotMet", "Twice", "TooMany", "InvalidCommand", "CarriedError"]) (.cons (.isx (.var 0) "IllKinded" ["IllKinded"] ["InvalidKind", "InvalidCount", "InvalidPart", "Refused", "InvalidText", "InvalidOctets", "InvalidPaper", "Stuck", "Unfit", "Clash", "Unknown", "NotMet", "Twice", "TooMany", "InvalidCommand", "CarriedError"]) (.cons (.isx (.var 0) "Stuck" ["Stuck"] ["InvalidKind", "InvalidCount", "InvalidPart", "Refused", "InvalidText", "InvalidOctets", "InvalidPaper", "IllKinded", "Unfit", "Clash", "Unknown", "NotMet", "Twice", "TooMany", "InvalidCommand", "CarriedError"]) .nil)))))) (.cons (.asg 1 (.bin .add (.var 1) (.lst (.cons (.isx (.var 0) "Unfit" ["Unfit"] ["InvalidKind", "InvalidCount", "InvalidPart", "Refused", "InvalidText", "InvalidOctets", "InvalidPaper", "IllKinded", "Stuck", "Clash", "Unknown", "NotMet", "Twice", "TooMany", "InvalidCommand", "CarriedError"]) (.cons (.isx (.var 0) "Clash" ["Clash"] ["InvalidKind", "InvalidCount", "InvalidPart", "Refused", "InvalidText", "InvalidOctets", "InvalidPaper", "IllKinded", "Stuck", "Unfit", "Unknown", "NotMet", "Twice", "TooMany", "InvalidCommand", "CarriedError"]) (.cons (.isx (.var 0) "Unknown" ["Unknown"] ["InvalidKind", "InvalidCount", "InvalidPart", "Refused", "InvalidText", "InvalidOctets", "InvalidPaper", "IllKinded", "Stuck", "Unfit", "Clash", "NotMet", "Twice", "TooMany", "InvalidCommand", "CarriedError"]) .nil)))))) (.cons (.asg 1 (.bin .add (.var 1) (.lst (.cons (.isx (.var 0) "NotMet" ["NotMet"] ["InvalidKind", "InvalidCount", "InvalidPart", "Refused", "InvalidText", "InvalidOctets", "InvalidPaper", "IllKinded", "Stuck", "Unfit", "Clash", "Unknown", "Twice", "TooMany", "InvalidCommand", "CarriedError"]) (.cons (.isx (.var 0) "Twice" ["Twice"] ["InvalidKind", "InvalidCount", "InvalidPart", "Refused", "InvalidText", "InvalidOctets", "InvalidPaper", "IllKinded", "Stuck", "Unfit", "Clash", "Unknown", "NotMet", "TooMany", "InvalidCommand", "CarriedError"]) (.cons (.isx (.var 0) "TooMany" ["TooMany"] ["InvalidKind", "InvalidCount", "InvalidPart", "Refused", "InvalidText", "InvalidOctets", "InvalidPaper", "IllKinded", "Stuck", "Unfit", "Clash", "Unknown", "NotMet", "Twice", "InvalidCommand", "CarriedError"]) .nil)))))) (.cons (.asg 1 (.bin .add (.var 1) (.lst (.cons (.isx (.var 0) "InvalidCommand" ["InvalidCommand"] ["InvalidKind", "InvalidCount", "InvalidPart", "Refused", "InvalidText", "InvalidOctets", "InvalidPaper", "IllKinded", "Stuck", "Unfit", "Clash", "Unknown", "NotMet", "Twice", "TooMany", "CarriedError"]) .nil)))) (.cons (.ret (.var 1)) .nil)))))))
abbrev f__law_marks : Fn := { name := "_law_marks", N := ["e", "marks"], P := ["e"], frz := false, body := b__law_marks }
abbrev i__law_way_right_0 : I := .rng (.con (.int 16))
abbrev x__law_way_right_0 : E := .cmp .eq (.var 5) (.var 0)
abbrev c__law_way_right_0 : E := .miss
abbrev e__law_way_right_0 : E := .lc (.v 5) i__law_way_right_0 c__law_way_right_0 x__law_way_right_0
abbrev b__law_way_right : Ss := .cons (.par 2 3 (.lst (.nil)) (.con (.bl false))) (.cons (.tryAP (.cons (.expC 10 (.cons (.var 0) (.cons (.var 1) .nil))) .nil) "CarriedError" ["InvalidKind", "InvalidCount", "InvalidPart", "Refused", "InvalidText", "InvalidOctets", "InvalidPaper", "IllKinded", "Stuck", "Unfit", "Clash", "Unknown", "NotMet", "Twice", "TooMany", "InvalidCommand", "CarriedError"] [] 4 2 3 (.call 11 (.cons (.var 4) .nil)) (.isv (.var 4) ["InvalidKind", "InvalidCount", "InvalidPart", "Refused", "InvalidText", "InvalidOctets", "InvalidPaper", "IllKinded", "Stuck", "Unfit", "Clash", "Unknown", "NotMet", "Twice", "TooMany", "InvalidCommand", "CarriedError"]) (.nil)) (.cons (.ret (.and (.var 3) (.cons (.cmp .eq (.var 2) (e__law_way_right_0)) .nil))) .nil))
abbrev f__law_way_right : Fn := { name := "_law_way_right", N := ["way", "thing", "found", "under", "e", "k"], P := ["way", "thing"], frz := false, body := b__law_way_right }
abbrev i__law_fields_right_0 : I := .ev (.var 1)
abbrev x__law_fields_right_0 : E := .bf .repr (.cons (.var 2) .nil)
abbrev c__law_fields_right_0 : E := .miss
abbrev e__law_fields_right_0 : E := .lc (.v 2) i__law_fields_right_0 c__law_fields_right_0 x__law_fields_right_0
abbrev b__law_fields_right : Ss := .cons (.asg 1 (.lst (.nil))) (.cons (.asg 1 (.bin .add (.var 1) (.lst (.cons (.mkf "InvalidText" "index" false (.var 0)) (.cons (.mkf "InvalidText" "index" true (.var 0)) .nil))))) (.cons (.asg 1 (.bin .add (.var 1) (.lst (.cons (.mkf "InvalidOctets" "index" false (.var 0)) (.cons (.mkf "InvalidOctets" "index" true (.var 0)) .nil))))) (.cons (.asg 1 (.bin .add (.var 1) (.lst (.cons (.mkf "InvalidPaper" "index" false (.var 0)) (.cons (.mkf "InvalidPaper" "index" true (.var 0)) .nil))))) (.cons (.asg 1 (.bin .add (.var 1) (.lst (.cons (.mkf "IllKinded" "place" false (.var 0)) (.cons (.mkf "IllKinded" "place" true (.var 0)) .nil))))) (.cons (.asg 1 (.bin .add (.var 1) (.lst (.cons (.mkf "Stuck" "place" false (.var 0)) (.cons (.mkf "Stuck" "place" true (.var 0)) .nil))))) (.cons (.asg 1 (.bin .add (.var 1) (.lst (.cons (.mkf "Unfit" "place" false (.var 0)) (.cons (.mkf "Unfit" "place" true (.var 0)) .nil))))) (.cons (.asg 1 (.bin .add (.var 1) (.lst (.cons (.mkf "Clash" "places" false (.var 0)) (.cons (.mkf "Clash" "places" true (.var 0)) .nil))))) (.cons (.asg 1 (.bin .add (.var 1) (.lst (.cons (.mkf "Unknown" "word" false (.var 0)) (.cons (.mkf "Unknown" "word" true (.var 0)) .nil))))) (.cons (.asg 1 (.bin .add (.var 1) (.lst (.cons (.mkf "NotMet" "word" false (.var 0)) (.cons (.mkf "NotMet" "word" true (.var 0)) .nil))))) (.cons (.asg 1 (.bin .add (.var 1) (.lst (.cons (.mkf "Twice" "word" false (.var 0)) (.cons (.mkf "Twice" "word" true (.var 0)) .nil))))) (.cons (.asg 1 (.bin .add (.var 1) (.lst (.cons (.mkf "TooMany" "count" false (.var 0)) (.cons (.mkf "TooMany" "count" true (.var 0)) .nil))))) (.cons (.asg 1 (.bin .add (.var 1) (.lst (.cons (.mkf "InvalidCommand" "index" false (.var 0)) (.cons (.mkf "InvalidCommand" "index" true (.var 0)) .nil))))) (.cons (.ret (.cmp .eq (e__law_fields_right_0) (.bin .mul (.lst (.cons (.bf .repr (.cons (.var 0) .nil)) .nil)) (.con (.int 24))))) .nil)))))))))))))
abbrev f__law_fields_right : Fn := { name := "_law_fields_right", N := ["value", "found", "one"], P := ["value"], frz := false, body := b__law_fields_right }
abbrev b__law_kept_right : Ss := .cons (.asg 0 (.new (.lst (.cons (.tup (.cons (.con (.int 0)) (.cons (.con (.int 1)) .nil))) .nil)))) (.cons (.asg 1 (.lst (.cons (.mkf "InvalidText" "index" false (.var 0)) (.cons (.mkf "InvalidText" "index" true (.var 0)) (.cons (.mkf "InvalidOctets" "index" false (.var 0)) (.cons (.mkf "InvalidOctets" "index" true (.var 0)) (.cons (.mkf "InvalidPaper" "index" false (.var 0)) (.cons (.mkf "InvalidPaper" "index" true (.var 0)) .nil)))))))) (.cons (.asg 1 (.bin .add (.var 1) (.lst (.cons (.mkf "IllKinded" "place" false (.var 0)) (.cons (.mkf "IllKinded" "place" true (.var 0)) (.cons (.mkf "Stuck" "place" false (.var 0)) (.cons (.mkf "Stuck" "place" true (.var 0)) (.cons (.mkf "Unfit" "place" false (.var 0)) (.cons (.mkf "Unfit" "place" true (.var 0)) .nil))))))))) (.cons (.asg 1 (.bin .add (.var 1) (.lst (.cons (.mkf "Clash" "places" false (.var 0)) (.cons (.mkf "Clash" "places" true (.var 0)) (.cons (.mkf "Unknown" "word" false (.var 0)) (.cons (.mkf "Unknown" "word" true (.var 0)) (.cons (.mkf "NotMet" "word" false (.var 0)) (.cons (.mkf "NotMet" "word" true (.var 0)) .nil))))))))) (.cons (.asg 1 (.bin .add (.var 1) (.lst (.cons (.mkf "Twice" "word" false (.var 0)) (.cons (.mkf "Twice" "word" true (.var 0)) (.cons (.mkf "TooMany" "count" false (.var 0)) (.cons (.mkf "TooMany" "count" true (.var 0)) (.cons (.mkf "InvalidCommand" "index" false (.var 0)) (.cons (.mkf "InvalidCommand" "index" true (.var 0)) .nil))))))))) (.cons (.exp (.mth .append (.var 0) (.cons (.con (.int 2)) .nil))) (.cons (.ret (.cmp .deq (.var 1) (.bin .mul (.lst (.cons (.lst (.cons (.tup (.cons (.con (.int 0)) (.cons (.con (.int 1)) .nil))) (.cons (.con (.int 2)) .nil))) .nil)) (.con (.int 24))))) .nil))))))
abbrev f__law_kept_right : Fn := { name := "_law_kept_right", N := ["kept", "rows"], P := [], frz := false, body := b__law_kept_right }
abbrev b__law_by_hand : Ss := .cons (.asg 0 (.new (.lst (.nil)))) (.cons (.tryAs (.cons (.expC 9 (.cons (.tup (.cons (.con (.int 1)) (.cons (.con (.int 0)) (.cons (.con (.int 7)) .nil)))) .nil)) .nil) "InvalidOctets" ["InvalidOctets"] [] 1 (.cons (.exp (.mth .append (.var 0) (.cons (.fld (.var 1) "index" ["InvalidOctets"]) .nil))) .nil)) (.cons (.try_ (.cons (.expC 6 (.cons (.con (.non)) .nil)) .nil) "InvalidPart" ["InvalidPart"] [] (.cons (.exp (.mth .append (.var 0) (.cons (.con (.str "part")) .nil))) .nil)) (.cons (.tryAs (.cons (.expC 4 (.cons (.tup (.nil)) .nil)) .nil) "NotMet" ["NotMet"] [] 1 (.cons (.exp (.mth .append (.var 0) (.cons (.fld (.var 1) "word" ["NotMet"]) .nil))) .nil)) (.cons (.ret (.cmp .eq (.var 0) (.lst (.cons (.con (.int 2)) (.cons (.con (.str "part")) (.cons (.con (.str "main")) .nil)))))) .nil))))
abbrev f__law_by_hand : Fn := { name := "_law_by_hand", N := ["found", "e"], P := [], frz := false, body := b__law_by_hand }
abbrev i_law_0 : I := .rng (.con (.int 16))
abbrev x_law_0 : E := .var 4
abbrev c_law_0 : E := .not (.call 12 (.cons (.var 4) (.cons (.var 2) .nil)))
abbrev e_law_0 : E := .lc (.v 4) i_law_0 c_law_0 x_law_0
abbrev b_law : Ss := .cons (.asg 1 (.ite (.cmp .ne (.var 0) (.lst (.nil))) (.idx (.var 0) (.con (.int 0))) (.con (.int 0)))) (.cons (.asg 2 (.idx (.lst (.cons (.con (.str "x")) (.cons (.con (.str "kind")) (.cons (.con (.str "a b")) (.cons (.con (.str "")) (.cons (.con (.str "0")) .nil)))))) (.bin .mod (.bf .int (.cons (.var 1) .nil)) (.con (.int 5))))) (.cons (.asg 3 (.idx (.lst (.cons (.con (.int 7)) (.cons (.con (.bl true)) (.cons (.con (.non)) (.cons (.tup (.cons (.con (.int 0)) (.cons (.con (.int 1)) (.cons (.con (.int 2)) .nil)))) (.cons (.lst (.cons (.tup (.cons (.con (.int 0)) (.cons (.con (.int 1)) .nil))) .nil)) (.cons (.con (.str "x")) (.cons (.bin .pow (.con (.int 10)) (.con (.int 20))) (.cons (.tup (.nil)) (.cons (.con (.int 0)) (.cons (.con (.bl false)) (.cons (.con (.str "")) (.cons (.neg (.con (.int 1))) .nil))))))))))))) (.bin .mod (.bf .int (.cons (.var 1) .nil)) (.con (.int 12))))) (.cons (.ite (.cmp .ne (e_law_0) (.lst (.nil))) (.cons (.ret (.con (.bl false))) .nil) (.nil)) (.cons (.asg 5 (.lst (.cons (.con (.bl true)) .nil))) (.cons (.tryAs (.cons (.raiseE "CarriedError" (.var 2)) .nil) "CarriedError" ["InvalidKind", "InvalidCount", "InvalidPart", "Refused", "InvalidText", "InvalidOctets", "InvalidPaper", "IllKinded", "Stuck", "Unfit", "Clash", "Unknown", "NotMet", "Twice", "TooMany", "InvalidCommand", "CarriedError"] [] 6 (.cons (.asg 5 (.call 11 (.cons (.var 6) .nil))) .nil)) (.cons (.ret (.and (.call 13 (.cons (.var 3) .nil)) (.cons (.call 14 (.nil)) (.cons (.call 15 (.nil)) (.cons (.cmp .eq (.var 5) (.bin .mul (.lst (.cons (.con (.bl false)) .nil)) (.con (.int 16)))) .nil))))) .nil))))))
abbrev f_law : Fn := { name := "law", N := ["script", "cell", "thing", "value", "way", "found", "e"], P := ["script"], frz := false, body := b_law }
def T : List Fn := [f_is_integer, f_is_between, f_is_tuple_of, f_handed_out, f_linked, f_check_form_octets, f_octets_of, f_octet_at, f_number_from, f_code_told, f__law_raised, f__law_marks, f__law_way_right, f__law_fields_right, f__law_kept_right, f__law_by_hand, f_law]
def bs : List Str := ["ValueError", "bool", "int", "isinstance", "len", "range", "repr", "super", "tuple"]
def gn : List Str := ["MAIN", "GROUP", "MOST_GROUPS"]
def xs : List Str := ["CarriedError", "InvalidKind", "InvalidCount", "InvalidPart", "Refused"]
def exA : List Str := ["InvalidKind", "InvalidCount", "InvalidPart", "Refused", "InvalidText", "InvalidOctets", "InvalidPaper", "IllKinded", "Stuck", "Unfit", "Clash", "Unknown", "NotMet", "Twice", "TooMany", "InvalidCommand", "CarriedError"]
def exB : List Str := ["InvalidKind", "InvalidCount", "InvalidPart", "Refused", "InvalidText", "InvalidOctets", "InvalidPaper", "IllKinded", "Stuck", "Unfit", "Clash", "Unknown", "NotMet", "Twice", "TooMany", "InvalidCommand"]
def xm : Xm := ⟨[("InvalidKind", "CarriedError", true), ("InvalidCount", "CarriedError", true), ("InvalidPart", "CarriedError", true), ("Refused", "CarriedError", true), ("InvalidText", "CarriedError", true), ("InvalidOctets", "CarriedError", true), ("InvalidPaper", "CarriedError", true), ("IllKinded", "CarriedError", true), ("Stuck", "CarriedError", true), ("Unfit", "CarriedError", true), ("Clash", "CarriedError", true), ("Unknown", "CarriedError", true), ("NotMet", "CarriedError", true), ("Twice", "CarriedError", true), ("TooMany", "CarriedError", true), ("InvalidCommand", "CarriedError", true), ("CarriedError", "CarriedError", true), ("InvalidOctets", "InvalidOctets", true), ("InvalidPart", "InvalidPart", true), ("NotMet", "NotMet", true)], (exA.flatMap fun x => exB.map fun y => (x, y, decide (x = y))), [("InvalidOctets", "index"), ("NotMet", "word")], ["InvalidKind", "InvalidCount", "InvalidPart", "Refused", "InvalidText", "InvalidOctets", "InvalidPaper", "IllKinded", "Stuck", "Unfit", "Clash", "Unknown", "NotMet", "Twice", "TooMany", "InvalidCommand", "CarriedError"]⟩
def xg : List (Str × Str) := [("InvalidText", "index"), ("InvalidOctets", "index"), ("InvalidPaper", "index"), ("IllKinded", "place"), ("Stuck", "place"), ("Unfit", "place"), ("Clash", "places"), ("Unknown", "word"), ("NotMet", "word"), ("Twice", "word"), ("TooMany", "count"), ("InvalidCommand", "index")]
def qt : List Nat := [11]
-- at: [22, 23, 24, 83, 84, 99, 105, 106, 107, 112, 114, 115, 116, 117, 118, 119, 120]

def top (i : Nat) : Stmt := PySem.Challenge.pw_kindscarried_k00_error_classes.main.body.getD i (.Pass ⟨0, 0, 0, 0⟩)
def L : Lw := ⟨bs, gn, xs, xm, xg, qt⟩
def chk (f : Fn) (i : Nat) : Bool := mSs (L.cs T f.N (defScope (top i)) false) f.body (defBody (top i))
def chkq (f : Fn) (i : Nat) : Bool := mSs (L.cs T f.N (defScope (top i)) true) f.body (defBody (top i))
theorem ok_is_integer : chk f_is_integer 22 = true := by decide +kernel
theorem sc_is_integer : FnScope f_is_integer.N f_is_integer.P (defScope (top 22)) := ⟨rfl, rfl, rfl, by decide +kernel, rfl, by decide +kernel, by decide +kernel⟩
theorem ok_is_between : chk f_is_between 23 = true := by decide +kernel
theorem sc_is_between : FnScope f_is_between.N f_is_between.P (defScope (top 23)) := ⟨rfl, rfl, rfl, by decide +kernel, rfl, by decide +kernel, by decide +kernel⟩
theorem ok_is_tuple_of : chk f_is_tuple_of 24 = true := by decide +kernel
theorem sc_is_tuple_of : FnScope f_is_tuple_of.N f_is_tuple_of.P (defScope (top 24)) := ⟨rfl, rfl, rfl, by decide +kernel, rfl, by decide +kernel, by decide +kernel⟩
theorem ok_handed_out : chk f_handed_out 83 = true := by decide +kernel
theorem sc_handed_out : FnScope f_handed_out.N f_handed_out.P (defScope (top 83)) := ⟨rfl, rfl, rfl, by decide +kernel, rfl, by decide +kernel, by decide +kernel⟩
theorem ok_linked : chk f_linked 84 = true := by decide +kernel
theorem sc_linked : FnScope f_linked.N f_linked.P (defScope (top 84)) := ⟨rfl, rfl, rfl, by decide +kernel, rfl, by decide +kernel, by decide +kernel⟩
theorem ok_check_form_octets : chk f_check_form_octets 99 = true := by decide +kernel
theorem sc_check_form_octets : FnScope f_check_form_octets.N f_check_form_octets.P (defScope (top 99)) := ⟨rfl, rfl, rfl, by decide +kernel, rfl, by decide +kernel, by decide +kernel⟩
theorem ok_octets_of : chk f_octets_of 105 = true := by decide +kernel
theorem sc_octets_of : FnScope f_octets_of.N f_octets_of.P (defScope (top 105)) := ⟨rfl, rfl, rfl, by decide +kernel, rfl, by decide +kernel, by decide +kernel⟩
theorem ok_octet_at : chk f_octet_at 106 = true := by decide +kernel
theorem sc_octet_at : FnScope f_octet_at.N f_octet_at.P (defScope (top 106)) := ⟨rfl, rfl, rfl, by decide +kernel, rfl, by decide +kernel, by decide +kernel⟩
theorem ok_number_from : chk f_number_from 107 = true := by decide +kernel
theorem sc_number_from : FnScope f_number_from.N f_number_from.P (defScope (top 107)) := ⟨rfl, rfl, rfl, by decide +kernel, rfl, by decide +kernel, by decide +kernel⟩
theorem ok_code_told : chk f_code_told 112 = true := by decide +kernel
theorem sc_code_told : FnScope f_code_told.N f_code_told.P (defScope (top 112)) := ⟨rfl, rfl, rfl, by decide +kernel, rfl, by decide +kernel, by decide +kernel⟩
theorem ok__law_raised : chk f__law_raised 114 = true := by decide +kernel
theorem sc__law_raised : FnScope f__law_raised.N f__law_raised.P (defScope (top 114)) := ⟨rfl, rfl, rfl, by decide +kernel, rfl, by decide +kernel, by decide +kernel⟩
theorem ok__law_marks : chk f__law_marks 115 = true := by decide +kernel
theorem okq__law_marks : chkq f__law_marks 115 = true := by decide +kernel
theorem sc__law_marks : FnScope f__law_marks.N f__law_marks.P (defScope (top 115)) := ⟨rfl, rfl, rfl, by decide +kernel, rfl, by decide +kernel, by decide +kernel⟩
theorem ok__law_way_right : chk f__law_way_right 116 = true := by decide +kernel
theorem sc__law_way_right : FnScope f__law_way_right.N f__law_way_right.P (defScope (top 116)) := ⟨rfl, rfl, rfl, by decide +kernel, rfl, by decide +kernel, by decide +kernel⟩
theorem ok__law_fields_right : chk f__law_fields_right 117 = true := by decide +kernel
theorem sc__law_fields_right : FnScope f__law_fields_right.N f__law_fields_right.P (defScope (top 117)) := ⟨rfl, rfl, rfl, by decide +kernel, rfl, by decide +kernel, by decide +kernel⟩
theorem ok__law_kept_right : chk f__law_kept_right 118 = true := by decide +kernel
theorem sc__law_kept_right : FnScope f__law_kept_right.N f__law_kept_right.P (defScope (top 118)) := ⟨rfl, rfl, rfl, by decide +kernel, rfl, by decide +kernel, by decide +kernel⟩
theorem ok__law_by_hand : chk f__law_by_hand 119 = true := by decide +kernel
theorem sc__law_by_hand : FnScope f__law_by_hand.N f__law_by_hand.P (defScope (top 119)) := ⟨rfl, rfl, rfl, by decide +kernel, rfl, by decide +kernel, by decide +kernel⟩
theorem ok_law : chk f_law 120 = true := by decide +kernel
theorem sc_law : FnScope f_law.N f_law.P (defScope (top 120)) := ⟨rfl, rfl, rfl, by decide +kernel, rfl, by decide +kernel, by decide +kernel⟩
abbrev G : List D := [.str "main", .int 128, .int 5]
abbrev C (k f : Nat) (xs : List D) (h : Hh) : R D := callN T G k f xs h
abbrev F (k : Nat) : Fns := callN T G k
abbrev n_is_integer : Nat := 0
abbrev n_is_between : Nat := 1
abbrev n_is_tuple_of : Nat := 2
abbrev n_handed_out : Nat := 3
abbrev n_linked : Nat := 4
abbrev n_check_form_octets : Nat := 5
abbrev n_octets_of : Nat := 6
abbrev n_octet_at : Nat := 7
abbrev n_number_from : Nat := 8
abbrev n_code_told : Nat := 9
abbrev n__law_raised : Nat := 10
abbrev n__law_marks : Nat := 11
abbrev n__law_way_right : Nat := 12
abbrev n__law_fields_right : Nat := 13
abbrev n__law_kept_right : Nat := 14
abbrev n__law_by_hand : Nat := 15
abbrev n_law : Nat := 16
end K00
end

section
set_option maxRecDepth 100000
set_option maxHeartbeats 0
namespace K00
open PySem PySem.Spec PyProof.Rows L2 PV
def tail : Ss := match b_law with
  | .cons _ (.cons _ (.cons _ t)) => t
  | _ => .nil
def ans : RS → Bool
  | .ret (.bl b) _ => b
  | _ => false
theorem ans_ok {r : RS} (h : ans r = true) : ∃ d, r = .ret (.bl true) d := by
  unfold ans at h
  split at h
  · subst h; exact ⟨_, rfl⟩
  · cases h
theorem v0 (s c : D) (t : Str) : ans (evSs (F 30) G tail [some s, some c, some (.str t), some (.int 7), none, none, none] []) = true := by kernel_rfl
theorem v1 (s c : D) (t : Str) : ans (evSs (F 30) G tail [some s, some c, some (.str t), some (.bl true), none, none, none] []) = true := by kernel_rfl
theorem v2 (s c : D) (t : Str) : ans (evSs (F 30) G tail [some s, some c, some (.str t), some .non, none, none, none] []) = true := by kernel_rfl
theorem v3 (s c : D) (t : Str) : ans (evSs (F 30) G tail [some s, some c, some (.str t), some (.tup [.int 0, .int 1, .int 2]), none, none, none] []) = true := by kernel_rfl
theorem v4 (s c : D) (t : Str) : ans (evSs (F 30) G tail [some s, some c, some (.str t), some (.lst [.tup [.int 0, .int 1]]), none, none, none] []) = true := by kernel_rfl
theorem v5 (s c : D) (t : Str) : ans (evSs (F 30) G tail [some s, some c, some (.str t), some (.str "x"), none, none, none] []) = true := by kernel_rfl
theorem v6 (s c : D) (t : Str) : ans (evSs (F 30) G tail [some s, some c, some (.str t), some (.int (10 ^ 20)), none, none, none] []) = true := by kernel_rfl
theorem v7 (s c : D) (t : Str) : ans (evSs (F 30) G tail [some s, some c, some (.str t), some (.tup []), none, none, none] []) = true := by kernel_rfl
theorem v8 (s c : D) (t : Str) : ans (evSs (F 30) G tail [some s, some c, some (.str t), some (.int 0), none, none, none] []) = true := by kernel_rfl
theorem v9 (s c : D) (t : Str) : ans (evSs (F 30) G tail [some s, some c, some (.str t), some (.bl false), none, none, none] []) = true := by kernel_rfl
theorem v10 (s c : D) (t : Str) : ans (evSs (F 30) G tail [some s, some c, some (.str t), some (.str ""), none, none, none] []) = true := by kernel_rfl
theorem v11 (s c : D) (t : Str) : ans (evSs (F 30) G tail [some s, some c, some (.str t), some (.int (-1)), none, none, none] []) = true := by kernel_rfl
theorem lays_ints : ∀ r : List Int, D.lays (r.map D.int) = true
  | [] => rfl
  | i :: r => by
    show (D.lay (.int i) && D.lays (r.map D.int)) = true
    rw [lays_ints r]
    rfl
theorem deps_ints : ∀ r : List Int, D.deps (r.map D.int) = 0
  | [] => rfl
  | i :: r => by
    show max (D.dep (.int i)) (D.deps (r.map D.int)) = 0
    rw [deps_ints r]
    rfl
theorem e_ne (n : Int) (r : List Int) : opCmp .ne [] (.fz ((n :: r).map D.int)) (.lst []) = some true := by
  have h : D.cok (.lst ((n :: r).map D.int)) (.lst []) = true := by
    have l : D.lay (.lst ((n :: r).map D.int)) = true := lays_ints (n :: r)
    have d : D.dep (.lst ((n :: r).map D.int)) = 1 := by
      show D.deps ((n :: r).map D.int) + 1 = 1
      rw [deps_ints]
    unfold D.cok D.shp
    rw [l, d]
    rfl
  show ((if D.cok (.lst ((n :: r).map D.int)) (.lst []) then some (D.eqv (.lst ((n :: r).map D.int)) (.lst [])) else none).map (!·)) = some true
  rw [if_pos h]
  rfl
section
variable {FF : Fns} {GG : List D} {ρ : PV.Env} {h h1 : Hh}
theorem call_eq {T : List Fn} {k f : Nat} {fn : Fn} {args : List D} (hf : T[f]? = some fn) (hl : args.length = fn.P.length) :
    callN T GG (k + 1) f args h = finR fn.frz h.length (evSs (callN T GG k) GG fn.body (args.map some ++ List.replicate (fn.N.length - args.length) none) h) := by
  show (match T[f]? with
    | none => R.bad
    | some fn => if args.length = fn.P.length then finR fn.frz h.length (evSs (callN T GG k) GG fn.body (args.map some ++ List.replicate (fn.N.length - args.length) none) h) else .bad) = _
  rw [hf]
  exact if_pos hl
theorem cons_asg {i : Nat} {e : E} {ss : Ss} {x : D} (he : (evE FF GG e).v ρ h = .ok x h1) : evSs FF GG (.cons (.asg i e) ss) ρ h = evSs FF GG ss (ρ.set i (some x)) h1 := by
  show RS.then_ (R.then_ ((evE FF GG e).v ρ h) fun x h1 => .nxt (ρ.set i (some x)) h1) (evSs FF GG ss) = _
  rw [he]
  rfl
theorem idx_ok {a e : E} {xs : List D} {i : Int} {d : D} (ha : (evE FF GG a).v ρ h = .ok (.lst xs) h) (hi : (evE FF GG e).v ρ h = .ok (.int i) h) (hd : atI xs i = some d) : (evE FF GG (.idx a e)).v ρ h = .ok d h := by
  show R.bind ((evE FF GG a).v ρ h) (fun x h1 => R.bind ((evE FF GG e).v ρ h1) fun y h2 => R.opt (opIdx h2 x y) h2) = _
  rw [ha, R.bind_ok, hi, R.bind_ok]
  show R.opt (atI xs i) h = _
  rw [hd]
  rfl
theorem idx_fz {a e : E} {xs : List D} {i : Int} {d : D} (ha : (evE FF GG a).v ρ h = .ok (.fz xs) h) (hi : (evE FF GG e).v ρ h = .ok (.int i) h) (hd : atI xs i = some d) : (evE FF GG (.idx a e)).v ρ h = .ok d h := by
  show R.bind ((evE FF GG a).v ρ h) (fun x h1 => R.bind ((evE FF GG e).v ρ h1) fun y h2 => R.opt (opIdx h2 x y) h2) = _
  rw [ha, R.bind_ok, hi, R.bind_ok]
  show R.opt (atI xs i) h = _
  rw [hd]
  rfl
theorem cmp_t {o : COp} {a b : E} {x y : D} {t : Bool} (ha : (evE FF GG a).v ρ h = .ok x h) (hb : (evE FF GG b).v ρ h = .ok y h) (hc : opCmp o h x y = some t) : (evE FF GG (.cmp o a b)).t ρ h = .ok t h := by
  show R.bind (R.bind ((evE FF GG a).v ρ h) fun x h1 => R.bind ((evE FF GG b).v ρ h1) fun y h2 => R.opt ((opCmp o h2 x y).map D.bl) h2) (fun x h1 => R.opt (x.tru h1) h1) = _
  rw [ha, R.bind_ok, hb, R.bind_ok, hc]
  rfl
theorem ite_v {c a b : E} {t : Bool} (hc : (evE FF GG c).t ρ h = .ok t h1) : (evE FF GG (.ite c a b)).v ρ h = if t then (evE FF GG a).v ρ h1 else (evE FF GG b).v ρ h1 := by
  show R.bind ((evE FF GG c).t ρ h) (fun t h1 => if t then (evE FF GG a).v ρ h1 else (evE FF GG b).v ρ h1) = _
  rw [hc]
  rfl
end
abbrev E0 : E := .ite (.cmp .ne (.var 0) (.lst .nil)) (.idx (.var 0) (.con (.int 0))) (.con (.int 0))
abbrev A1 : E := .lst (.cons (.con (.str "x")) (.cons (.con (.str "kind")) (.cons (.con (.str "a b")) (.cons (.con (.str "")) (.cons (.con (.str "0")) .nil)))))
abbrev M5 : E := .bin .mod (.bf .int (.cons (.var 1) .nil)) (.con (.int 5))
abbrev M12 : E := .bin .mod (.bf .int (.cons (.var 1) .nil)) (.con (.int 12))
abbrev A2 : E := .lst (.cons (.con (.int 7)) (.cons (.con (.bl true)) (.cons (.con (.non)) (.cons (.tup (.cons (.con (.int 0)) (.cons (.con (.int 1)) (.cons (.con (.int 2)) .nil)))) (.cons (.lst (.cons (.tup (.cons (.con (.int 0)) (.cons (.con (.int 1)) .nil))) .nil)) (.cons (.con (.str "x")) (.cons (.bin .pow (.con (.int 10)) (.con (.int 20))) (.cons (.tup (.nil)) (.cons (.con (.int 0)) (.cons (.con (.bl false)) (.cons (.con (.str "")) (.cons (.neg (.con (.int 1))) .nil))))))))))))
theorem b_eq : b_law = .cons (.asg 1 E0) (.cons (.asg 2 (.idx A1 M5)) (.cons (.asg 3 (.idx A2 M12)) tail)) := by kernel_rfl
abbrev X0 (n : Int) (r : List Int) : PV.Env := [some (.fz ((n :: r).map D.int)), none, none, none, none, none, none]
theorem cell_ok (n : Int) (r : List Int) : (evE (F 30) G E0).v (X0 n r) [] = .ok (.int n) [] := by
  have e1 : (evE (F 30) G (.var 0)).v (X0 n r) [] = .ok (.fz ((n :: r).map D.int)) [] := by kernel_rfl
  have e2 : (evE (F 30) G (.lst .nil)).v (X0 n r) [] = .ok (.lst []) [] := by kernel_rfl
  rw [ite_v (cmp_t e1 e2 (e_ne n r)), if_pos rfl]
  refine idx_fz e1 (i := 0) (by kernel_rfl) ?_
  unfold atI ixN
  rw [if_pos (by omega), if_pos (by simp only [List.map_cons, List.length_cons]; omega)]
  rfl
abbrev things : List D := [.str "x", .str "kind", .str "a b", .str "", .str "0"]
abbrev vals : List D := [.int 7, .bl true, .non, .tup [.int 0, .int 1, .int 2], .lst [.tup [.int 0, .int 1]], .str "x", .int (10 ^ 20), .tup [], .int 0, .bl false, .str "", .int (-1)]
theorem a1_ok (ρ : PV.Env) : (evE (F 30) G A1).v ρ [] = .ok (.lst things) [] := by kernel_rfl
theorem a2_ok (ρ : PV.Env) : (evE (F 30) G A2).v ρ [] = .ok (.lst vals) [] := by kernel_rfl
theorem m5_ok (s a b c d e : Option D) (n : Int) : (evE (F 30) G M5).v [s, some (.int n), a, b, c, d, e] [] = .ok (.int (n % 5)) [] := by kernel_rfl
theorem m12_ok (s a b c d e : Option D) (n : Int) : (evE (F 30) G M12).v [s, some (.int n), a, b, c, d, e] [] = .ok (.int (n % 12)) [] := by kernel_rfl
theorem law_body (s : D) (n : Int) (t v : D) (h1 : (evE (F 30) G E0).v [some s, none, none, none, none, none, none] [] = .ok (.int n) []) (h2 : atI things (n % 5) = some t) (h3 : atI vals (n % 12) = some v)
    (h : ans (evSs (F 30) G tail [some s, some (.int n), some t, some v, none, none, none] []) = true) : ∃ d, callN T G 31 16 [s] [] = .ok (.bl true) d := by
  obtain ⟨d, e⟩ := ans_ok h
  refine ⟨d, ?_⟩
  rw [call_eq (fn := f_law) (by kernel_rfl) (by rfl)]
  have e0 : finR false 0 (evSs (F 30) G b_law [some s, none, none, none, none, none, none] []) = .ok (.bl true) d := by
    rw [b_eq, cons_asg h1]
    have g2 := cons_asg (ss := .cons (.asg 3 (.idx A2 M12)) tail) (i := 2) (idx_ok (a1_ok [some s, some (.int n), none, none, none, none, none]) (m5_ok (some s) none none none none none n) h2)
    have g3 := cons_asg (ss := tail) (i := 3) (idx_ok (a2_ok [some s, some (.int n), some t, none, none, none, none]) (m12_ok (some s) (some t) none none none none n) h3)
    refine (congrArg (finR false 0) (g2.trans (g3.trans e))).trans rfl
  exact e0
theorem pick {xs : List D} (n : Int) (m : Nat) (hm : xs.length = m) (h0 : 0 < m) : ∃ i, i < m ∧ ∃ d, xs[i]? = some d ∧ atI xs (n % m) = some d := by
  have h1 := Int.emod_nonneg n (show ((m : Nat) : Int) ≠ 0 by omega)
  have h2 := Int.emod_lt_of_pos n (show (0 : Int) < m by omega)
  obtain ⟨i, hi⟩ := Int.eq_ofNat_of_zero_le h1
  have hi2 : i < m := by omega
  refine ⟨i, hi2, xs[i]'(by omega), List.getElem?_eq_getElem (by omega), ?_⟩
  rw [hi]
  unfold atI ixN
  (rw [if_pos (by omega), if_pos (by omega)])
  show xs[Int.toNat (i : Int)]? = _
  rw [Int.toNat_natCast]
  exact List.getElem?_eq_getElem (by omega)
theorem thing_str (i : Nat) (d : D) (h : things[i]? = some d) : ∃ t : Str, d = .str t := by
  match i, h with
  | 0, h => cases h; exact ⟨_, rfl⟩
  | 1, h => cases h; exact ⟨_, rfl⟩
  | 2, h => cases h; exact ⟨_, rfl⟩
  | 3, h => cases h; exact ⟨_, rfl⟩
  | 4, h => cases h; exact ⟨_, rfl⟩
  | _ + 5, h => simp [things] at h
theorem val_ok (s c : D) (t : Str) (i : Nat) (d : D) (h : vals[i]? = some d) : ans (evSs (F 30) G tail [some s, some c, some (.str t), some d, none, none, none] []) = true := by
  match i, h with
  | 0, h => cases h; exact v0 s c t
  | 1, h => cases h; exact v1 s c t
  | 2, h => cases h; exact v2 s c t
  | 3, h => cases h; exact v3 s c t
  | 4, h => cases h; exact v4 s c t
  | 5, h => cases h; exact v5 s c t
  | 6, h => cases h; exact v6 s c t
  | 7, h => cases h; exact v7 s c t
  | 8, h => cases h; exact v8 s c t
  | 9, h => cases h; exact v9 s c t
  | 10, h => cases h; exact v10 s c t
  | 11, h => cases h; exact v11 s c t
  | _ + 12, h => simp [vals] at h
theorem law_any (s : D) (n : Int) (h1 : (evE (F 30) G E0).v [some s, none, none, none, none, none, none] [] = .ok (.int n) []) : ∃ d, callN T G 31 16 [s] [] = .ok (.bl true) d := by
  obtain ⟨i, _, t, ht, ht2⟩ := pick (xs := things) n 5 rfl (by decide)
  obtain ⟨j, _, v, hv, hv2⟩ := pick (xs := vals) n 12 rfl (by decide)
  obtain ⟨x, rfl⟩ := thing_str i t ht
  exact law_body s n (.str x) v h1 ht2 hv2 (val_ok s (.int n) x j v hv)
theorem law_ev (ns : List Int) : ∃ h, callN T G 31 16 [.fz (ns.map D.int)] [] = .ok (.bl true) h := by
  cases ns with
  | nil => exact law_any _ 0 (by kernel_rfl)
  | cons n r => exact law_any _ n (cell_ok n r)
end K00
end

section
set_option maxRecDepth 100000
set_option maxHeartbeats 2000001
/-! PvGc: a gate's facts, each by one look. -/
namespace GA
open PySem PySem.Spec PySem.W PySem.Calls PyProof.Rows
def isG (f : Str) : List Stmt → Bool
  | [.Expr (.Call (.Attribute (.Call (.Name x _) [] [] _) y p2) [.Constant (.str _) _ _] [] p4) _, .Assign [.Attribute (.Name z _) g _] (.Name g2 _) _] => (p2.endLine == p4.line) && decide (x = "super") && (decide (y = "__init__") && (decide (z = "self") && (decide (g = f) && decide (g2 = f))))
  | _ => false
theorem isG_ok {f : Str} {b : List Stmt} (h : isG f b = true) : ∃ (text : Str) (k : Nat) (p0 p1 p2 p3 p4 p5 p6 p7 p8 p9 : Pos), b = gBody text f k p0 p1 p2 p3 p4 p5 p6 p7 p8 p9 ∧ (p2.endLine == p4.line) = true := by
  unfold isG at h
  split at h
  · obtain ⟨h1, h⟩ := ba h
    obtain ⟨hl, h1⟩ := ba h1
    obtain ⟨h2, h⟩ := ba h
    obtain ⟨h3, h⟩ := ba h
    obtain ⟨h4, h5⟩ := ba h
    have e1 := of_decide_eq_true h1
    have e2 := of_decide_eq_true h2
    have e3 := of_decide_eq_true h3
    have e4 := of_decide_eq_true h4
    (have e5 := of_decide_eq_true h5)
    subst e1 e2 e3 e4 e5
    exact ⟨_, _, _, _, _, _, _, _, _, _, _, _, rfl, hl⟩
  · cases h
def headB (ps : Arguments) : Bool := match (ps.posonlyargs ++ ps.args).head? with
  | some ar => decide (ar.arg = "self")
  | none => false
theorem gate_ev {text : Str} {k : Nat} {p0 p1 p2 p3 p4 : Pos} (hl : (p2.endLine == p4.line) = true) : ∃ pl : Env → Sem Bool, ∀ env : Env, eval (.Call (.Attribute (.Call (.Name "super" p0) [] [] p1) "__init__" p2) [.Constant (.str text) k p3] [] p4) env = (do
      let ov ← attributeBase (.Call (.Name "super" p0) [] [] p1) "__init__" env (eval (.Call (.Name "super" p0) [] [] p1) env)
      standAt p2.atName
      let (f, first) ← holding [ov] (getMethod ov "__init__" (pl env))
      callWith p4 f first (backTo p4 (starEach [.Constant (.str text) k p3] env)) []) := by
  refine ⟨fun env => (do return (← importBound (.Call (.Name "super" p0) [] [] p1) env).getD true), fun env => ?_⟩
  have pos : methodCallPos true (.Call (.Name "super" p0) [] [] p1) env p2 p4 = pure p4 := by unfold methodCallPos; simp [hl]
  have e1 : eval (.Call (.Attribute (.Call (.Name "super" p0) [] [] p1) "__init__" p2) [.Constant (.str text) k p3] [] p4) env = (do
      let ov ← attributeBase (.Call (.Name "super" p0) [] [] p1) "__init__" env (eval (.Call (.Name "super" p0) [] [] p1) env)
      standAt p2.atName
      let (f, first) ← holding [ov] (calleeOf true (.Call (.Name "super" p0) [] [] p1) env ov "__init__")
      let callPos ← methodCallPos true (.Call (.Name "super" p0) [] [] p1) env p2 p4
      callWith callPos f first (backTo p4 (starEach [.Constant (.str text) k p3] env)) []) := by
    first | rfl | (rw [arm_eval_Call]; rfl)
  rw [e1, pos]
  rfl
theorem gate_by {prog : Program} {K : Frag} {C : Addr} {f name qual : Str} {params : Arguments} {body : List Stmt} {scope : Scope} (hb : isG f body = true) (htop : (prog.main.scope.names.lookup ("super" : Str)).isSome = false) (hd : headB params = true) (sc : scB scope f = true) (kind : scope.kind = .function)
    (bind : ∀ (b : List Stmt) (kV doc pm ct cdv : Value) (an : Option Addr) (cc : Addr) (u v : Value), bindArgs (ksFn name qual params b scope .none kV doc pm an cdv ct cc) ⟨[u, v], []⟩ = pure ([("self", u), (f, v)] : List (Str × Value)) ∧ bindArgs (ksFn name qual params b scope .none kV doc pm an cdv ct cc) ⟨[u], [(f, v)]⟩ = pure ([("self", u), (f, v)] : List (Str × Value)))
    (h : gB K C f prog.main.file = true) (hf : fnC K (He.ma K C "__init__") = some (name, qual, params, .stmts body, scope)) : Gate prog K C f := by
  obtain ⟨text, k, p0, p1, p2, p3, p4, p5, p6, p7, p8, p9, rfl, hl⟩ := isG_ok hb
  refine gate_of ⟨htop, ?_, sc, kind, fun kV doc pm ct cdv an cc u v => bind _ kV doc pm ct cdv an cc u v, gate_ev hl⟩ h hf
  unfold headB at hd
  split at hd
  · rename_i ar ha
    exact ⟨ar, ha, of_decide_eq_true hd⟩
  · cases hd
end GA
end

section
set_option maxRecDepth 100000
set_option maxHeartbeats 0
namespace K00
open PySem PySem.Spec PyProof.Rows L2 PV
def ini : Stmt → Stmt
  | .ClassDef _ _ _ (m :: _) _ _ _ _ _ _ _ => m
  | s => s
def d_is_integer : He.DefD := ⟨("is_integer", none), "is_integer", "is_integer", defArgs (top 22), defBody (top 22), defScope (top 22), [], []⟩
def d_is_between : He.DefD := ⟨("is_between", none), "is_between", "is_between", defArgs (top 23), defBody (top 23), defScope (top 23), [], []⟩
def d_is_tuple_of : He.DefD := ⟨("is_tuple_of", none), "is_tuple_of", "is_tuple_of", defArgs (top 24), defBody (top 24), defScope (top 24), [], []⟩
def d_handed_out : He.DefD := ⟨("handed_out", none), "handed_out", "handed_out", defArgs (top 83), defBody (top 83), defScope (top 83), [], []⟩
def d_linked : He.DefD := ⟨("linked", none), "linked", "linked", defArgs (top 84), defBody (top 84), defScope (top 84), [], []⟩
def d_check_form_octets : He.DefD := ⟨("check_form_octets", none), "check_form", "check_form", defArgs (top 99), defBody (top 99), defScope (top 99), [], []⟩
def d_octets_of : He.DefD := ⟨("octets_of", none), "octets_of", "octets_of", defArgs (top 105), defBody (top 105), defScope (top 105), [], []⟩
def d_octet_at : He.DefD := ⟨("octet_at", none), "octet_at", "octet_at", defArgs (top 106), defBody (top 106), defScope (top 106), [], []⟩
def d_number_from : He.DefD := ⟨("number_from", none), "number_from", "number_from", defArgs (top 107), defBody (top 107), defScope (top 107), [], []⟩
def d_code_told : He.DefD := ⟨("code_told", none), "code_told", "code_told", defArgs (top 112), defBody (top 112), defScope (top 112), [], []⟩
def d__law_raised : He.DefD := ⟨("_law_raised", none), "_law_raised", "_law_raised", defArgs (top 114), defBody (top 114), defScope (top 114), [], []⟩
def d__law_marks : He.DefD := ⟨("_law_marks", none), "_law_marks", "_law_marks", defArgs (top 115), defBody (top 115), defScope (top 115), [], []⟩
def d__law_way_right : He.DefD := ⟨("_law_way_right", none), "_law_way_right", "_law_way_right", defArgs (top 116), defBody (top 116), defScope (top 116), [], []⟩
def d__law_fields_right : He.DefD := ⟨("_law_fields_right", none), "_law_fields_right", "_law_fields_right", defArgs (top 117), defBody (top 117), defScope (top 117), [], []⟩
def d__law_kept_right : He.DefD := ⟨("_law_kept_right", none), "_law_kept_right", "_law_kept_right", defArgs (top 118), defBody (top 118), defScope (top 118), [], []⟩
def d__law_by_hand : He.DefD := ⟨("_law_by_hand", none), "_law_by_hand", "_law_by_hand", defArgs (top 119), defBody (top 119), defScope (top 119), [], []⟩
def d_law : He.DefD := ⟨("law", none), "law", "law", defArgs (top 120), defBody (top 120), defScope (top 120), [], []⟩
def fn : List He.DefD := [d_is_integer, d_is_between, d_is_tuple_of, d_handed_out, d_linked, d_check_form_octets, d_octets_of, d_octet_at, d_number_from, d_code_told, d__law_raised, d__law_marks, d__law_way_right, d__law_fields_right, d__law_kept_right, d__law_by_hand, d_law]
def fa : List He.Fa := [.glo "is_integer", .glo "is_between", .glo "is_tuple_of", .glo "handed_out", .glo "linked", .glo "check_form_octets", .glo "octets_of", .glo "octet_at", .glo "number_from", .glo "code_told", .glo "_law_raised", .glo "_law_marks", .glo "_law_way_right", .glo "_law_fields_right", .glo "_law_kept_right", .glo "_law_by_hand", .glo "law", .free "ValueError", .free "bool", .free "int", .free "isinstance", .free "len", .free "range", .free "repr", .free "super", .free "tuple", .str "MAIN" "main", .int "GROUP" (128), .int "MOST_GROUPS" (5), .glo "CarriedError", .glo "InvalidKind", .glo "InvalidCount", .glo "InvalidPart", .glo "Refused", .glo "InvalidText", .glo "InvalidOctets", .glo "InvalidPaper", .glo "IllKinded", .glo "Stuck", .glo "Unfit", .glo "Clash", .glo "Unknown", .glo "NotMet", .glo "Twice", .glo "TooMany", .glo "InvalidCommand", .exc "CarriedError", .exc "InvalidKind", .exc "InvalidCount", .exc "InvalidPart", .exc "Refused", .exm "InvalidKind" "CarriedError" true, .exm "InvalidCount" "CarriedError" true, .exm "InvalidPart" "CarriedError" true, .exm "Refused" "CarriedError" true, .exm "InvalidText" "CarriedError" true, .exm "InvalidOctets" "CarriedError" true, .exm "InvalidPaper" "CarriedError" true, .exm "IllKinded" "CarriedError" true, .exm "Stuck" "CarriedError" true, .exm "Unfit" "CarriedError" true, .exm "Clash" "CarriedError" true, .exm "Unknown" "CarriedError" true, .exm "NotMet" "CarriedError" true, .exm "Twice" "CarriedError" true, .exm "TooMany" "CarriedError" true, .exm "InvalidCommand" "CarriedError" true, .exm "CarriedError" "CarriedError" true, .exm "InvalidOctets" "InvalidOctets" true, .exm "InvalidPart" "InvalidPart" true, .exm "NotMet" "NotMet" true]
def gs : List GA.GD := [("InvalidText", some ("__init__", "InvalidText.__init__", defArgs (ini (top 6)), .stmts (defBody (ini (top 6))), defScope (ini (top 6)))), ("InvalidOctets", some ("__init__", "InvalidOctets.__init__", defArgs (ini (top 7)), .stmts (defBody (ini (top 7))), defScope (ini (top 7)))), ("InvalidPaper", some ("__init__", "InvalidPaper.__init__", defArgs (ini (top 8)), .stmts (defBody (ini (top 8))), defScope (ini (top 8)))), ("IllKinded", some ("__init__", "IllKinded.__init__", defArgs (ini (top 9)), .stmts (defBody (ini (top 9))), defScope (ini (top 9)))), ("Stuck", some ("__init__", "Stuck.__init__", defArgs (ini (top 10)), .stmts (defBody (ini (top 10))), defScope (ini (top 10)))), ("Unfit", some ("__init__", "Unfit.__init__", defArgs (ini (top 11)), .stmts (defBody (ini (top 11))), defScope (ini (top 11)))), ("Clash", some ("__init__", "Clash.__init__", defArgs (ini (top 12)), .stmts (defBody (ini (top 12))), defScope (ini (top 12)))), ("Unknown", some ("__init__", "Unknown.__init__", defArgs (ini (top 13)), .stmts (defBody (ini (top 13))), defScope (ini (top 13)))), ("NotMet", some ("__init__", "NotMet.__init__", defArgs (ini (top 14)), .stmts (defBody (ini (top 14))), defScope (ini (top 14)))), ("Twice", some ("__init__", "Twice.__init__", defArgs (ini (top 15)), .stmts (defBody (ini (top 15))), defScope (ini (top 15)))), ("TooMany", some ("__init__", "TooMany.__init__", defArgs (ini (top 16)), .stmts (defBody (ini (top 16))), defScope (ini (top 16)))), ("InvalidCommand", some ("__init__", "InvalidCommand.__init__", defArgs (ini (top 17)), .stmts (defBody (ini (top 17))), defScope (ini (top 17))))]
def nms : List PySem.Str := [("is_integer" : PySem.Str), ("is_between" : PySem.Str), ("is_tuple_of" : PySem.Str), ("handed_out" : PySem.Str), ("linked" : PySem.Str), ("check_form_octets" : PySem.Str), ("octets_of" : PySem.Str), ("octet_at" : PySem.Str), ("number_from" : PySem.Str), ("code_told" : PySem.Str), ("_law_raised" : PySem.Str), ("_law_marks" : PySem.Str), ("_law_way_right" : PySem.Str), ("_law_fields_right" : PySem.Str), ("_law_kept_right" : PySem.Str), ("_law_by_hand" : PySem.Str), ("law" : PySem.Str), ("MAIN" : PySem.Str), ("GROUP" : PySem.Str), ("MOST_GROUPS" : PySem.Str), ("CarriedError" : PySem.Str), ("InvalidKind" : PySem.Str), ("InvalidCount" : PySem.Str), ("InvalidPart" : PySem.Str), ("Refused" : PySem.Str), ("InvalidText" : PySem.Str), ("InvalidOctets" : PySem.Str), ("InvalidPaper" : PySem.Str), ("IllKinded" : PySem.Str), ("Stuck" : PySem.Str), ("Unfit" : PySem.Str), ("Clash" : PySem.Str), ("Unknown" : PySem.Str), ("NotMet" : PySem.Str), ("Twice" : PySem.Str), ("TooMany" : PySem.Str), ("InvalidCommand" : PySem.Str)]
abbrev R0 : PySem.W.OpenRow := PySem.W.OpenLaw.row PySem.Challenge.rw_kindscarried_k00_error_classes
def exG (K : PySem.W.Frag) : Bool := xg.all fun p => GA.gB K (He.ga K p.1) p.2 PySem.Challenge.pw_kindscarried_k00_error_classes.main.file && (xfB K (He.ga K p.1) && decide (PySem.W.findIn K (.ref (He.ga K p.1)) p.2 = some none))
def exI (K : PySem.W.Frag) : Bool := exA.all fun x => PV.exCB K (He.ga K x) && exB.all fun y => decide (PySem.W.kitOne K (.ref (He.ga K x)) (.ref (He.ga K y)) = some (decide (x = y)))
def exV (K : PySem.W.Frag) : Bool := xm.v.all fun x => PV.exCB K (He.ga K x) && decide (PySem.W.kitOne K (.ref (He.ga K x)) (.type "ValueError") = some true)
def ex (K : PySem.W.Frag) : Bool := exG K && (exI K && exV K)
abbrev hkD : PySem.W.Hook := GA.hookC nms 3 fa fn gs ex
def obD (s : PySem.W.SharedT) : GA.AlC := GA.obsC fa fn gs ex (GA.fragC nms 3 (HandSHeadRun.getT s))
theorem obD_eq (s : PySem.W.SharedT) : obD s = hkD.obs s.abs := GA.obsC_eq (HandSHeadRun.getT_eq s)
def loose : List PySem.Str := [("CarriedError" : PySem.Str), ("InvalidKind" : PySem.Str), ("InvalidCount" : PySem.Str), ("InvalidPart" : PySem.Str), ("Refused" : PySem.Str), ("InvalidText" : PySem.Str), ("InvalidOctets" : PySem.Str), ("InvalidPaper" : PySem.Str), ("IllKinded" : PySem.Str), ("Stuck" : PySem.Str), ("Unfit" : PySem.Str), ("Clash" : PySem.Str), ("Unknown" : PySem.Str), ("NotMet" : PySem.Str), ("Twice" : PySem.Str), ("TooMany" : PySem.Str), ("InvalidCommand" : PySem.Str), ("is_integer" : PySem.Str), ("is_between" : PySem.Str), ("is_tuple_of" : PySem.Str), ("is_headed" : PySem.Str), ("is_kinds" : PySem.Str), ("is_pairs" : PySem.Str), ("has_form" : PySem.Str), ("is_rising" : PySem.Str), ("insides" : PySem.Str), ("binds" : PySem.Str), ("with_insides" : PySem.Str), ("is_kind_below" : PySem.Str), ("is_kind" : PySem.Str), ("put_below" : PySem.Str), ("opened" : PySem.Str), ("opened_first" : PySem.Str), ("unfolded" : PySem.Str), ("fits" : PySem.Str), ("check_is" : PySem.Str), ("code_kind" : PySem.Str), ("is_register" : PySem.Str), ("is_head" : PySem.Str), ("opened_head" : PySem.Str), ("known" : PySem.Str), ("with_known" : PySem.Str), ("given_kind" : PySem.Str), ("shown_kind" : PySem.Str), ("word_kind" : PySem.Str), ("check_word" : PySem.Str), ("check_goal" : PySem.Str), ("inside_of" : PySem.Str), ("room_kind" : PySem.Str), ("place_kind" : PySem.Str), ("stored_kind" : PySem.Str), ("tagged_kind" : PySem.Str), ("gained" : PySem.Str), ("written" : PySem.Str), ("check_row" : PySem.Str), ("after_row" : PySem.Str), ("check_end" : PySem.Str), ("check_block" : PySem.Str), ("check_heads" : PySem.Str), ("check_looked" : PySem.Str), ("is_name" : PySem.Str), ("is_named" : PySem.Str), ("check_form" : PySem.Str), ("code_of" : PySem.Str), ("check_part" : PySem.Str), ("word_with" : PySem.Str), ("row_with" : PySem.Str), ("block_with" : PySem.Str), ("handed_out" : PySem.Str), ("linked" : PySem.Str), ("words_of" : PySem.Str), ("kind_shape" : PySem.Str), ("row_shape" : PySem.Str), ("shape_of" : PySem.Str), ("number_octets" : PySem.Str), ("many_octets" : PySem.Str), ("one_octets" : PySem.Str), ("headed_octets" : PySem.Str), ("block_octets" : PySem.Str), ("octets_of" : PySem.Str), ("octet_at" : PySem.Str), ("number_from" : PySem.Str), ("many_from" : PySem.Str), ("one_from" : PySem.Str), ("headed_from" : PySem.Str), ("block_from" : PySem.Str), ("code_told" : PySem.Str), ("_law_raised" : PySem.Str), ("_law_marks" : PySem.Str), ("_law_way_right" : PySem.Str), ("_law_fields_right" : PySem.Str), ("_law_kept_right" : PySem.Str), ("_law_by_hand" : PySem.Str), ("LEAST" : PySem.Str), ("GREATEST" : PySem.Str), ("WORDS" : PySem.Str), ("MOST_BOUND" : PySem.Str), ("CODE_WORDS" : PySem.Str), ("MOST_REGISTERS" : PySem.Str), ("MAIN" : PySem.Str), ("LETTERS" : PySem.Str), ("check_form_linker" : PySem.Str), ("KINDS" : PySem.Str), ("NAMES" : PySem.Str), ("ROWS" : PySem.Str), ("ENDS" : PySem.Str), ("MOST_DEEP" : PySem.Str), ("MOST_NUMBER" : PySem.Str), ("GROUP" : PySem.Str), ("MOST_GROUPS" : PySem.Str), ("check_form_octets" : PySem.Str)]
theorem run (w : World) : HandSHeadRun.RunEq R0 (PySem.W.view R0.prog [120]) hkD obD 20000 loose w := by
  intro os
  kernel_rfl
end K00
end

section
set_option maxRecDepth 100000
set_option maxHeartbeats 0
namespace K00
open PySem PySem.Spec PyProof.Rows L2 PV
theorem ex_ok {K : PySem.W.Frag} (h : ex K = true) : exG K = true ∧ exI K = true ∧ exV K = true := by
  obtain ⟨h1, h2⟩ := GA.ba h
  exact ⟨h1, GA.ba h2⟩
theorem exG_ok {K : PySem.W.Frag} (h : exG K = true) : ∀ p ∈ xg, GA.gB K (He.ga K p.1) p.2 PySem.Challenge.pw_kindscarried_k00_error_classes.main.file = true ∧ xfB K (He.ga K p.1) = true ∧ PySem.W.findIn K (.ref (He.ga K p.1)) p.2 = some none := fun p hp => by
  obtain ⟨h1, h2⟩ := GA.ba (List.all_eq_true.mp h p hp)
  obtain ⟨h2, h3⟩ := GA.ba h2
  exact ⟨h1, h2, of_decide_eq_true h3⟩
theorem exI_ok {K : PySem.W.Frag} (h : exI K = true) : ∀ x ∈ exA, ExcC K (He.ga K x) ∧ ∀ y ∈ exB, PySem.W.kitOne K (.ref (He.ga K x)) (.ref (He.ga K y)) = some (decide (x = y)) := fun x hx => by
  obtain ⟨h1, h2⟩ := GA.ba (List.all_eq_true.mp h x hx)
  exact ⟨PV.exCB_ok h1, fun y hy => of_decide_eq_true (List.all_eq_true.mp h2 y hy)⟩
theorem exV_ok {K : PySem.W.Frag} (h : exV K = true) : ∀ x ∈ xm.v, ExcC K (He.ga K x) ∧ PySem.W.kitOne K (.ref (He.ga K x)) (.type "ValueError") = some true := fun x hx => by
  obtain ⟨h1, h2⟩ := GA.ba (List.all_eq_true.mp h x hx)
  exact ⟨PV.exCB_ok h1, of_decide_eq_true h2⟩
section
variable {h : Heap} {K : PySem.W.Frag} {mg : Str → Option Value}
theorem def_is_integer (X : K.In h) (G0 : h.Ns mainGlobals mg) (c : He.SaysD fa fn K) : DefOk K mg L T 0 f_is_integer (defArgs (top 22)) (defBody (top 22)) (defScope (top 22)) := by
  obtain ⟨fd, fu⟩ := c.def_ 0 (d := d_is_integer) rfl
  refine ⟨sc_is_integer, ok_is_integer, (fun hq => absurd hq (by decide)), _, fd, fu, He.glo_ok X G0 (c.fact 0 (f := .glo "is_integer") rfl), FunD.bindsN fu fun _ _ _ _ _ _ us hl => match us, hl with | [_], _ => rfl, fun q hq => ?_⟩
  exact absurd hq List.not_mem_nil
theorem def_is_between (X : K.In h) (G0 : h.Ns mainGlobals mg) (c : He.SaysD fa fn K) : DefOk K mg L T 1 f_is_between (defArgs (top 23)) (defBody (top 23)) (defScope (top 23)) := by
  obtain ⟨fd, fu⟩ := c.def_ 1 (d := d_is_between) rfl
  refine ⟨sc_is_between, ok_is_between, (fun hq => absurd hq (by decide)), _, fd, fu, He.glo_ok X G0 (c.fact 1 (f := .glo "is_between") rfl), FunD.bindsN fu fun _ _ _ _ _ _ us hl => match us, hl with | [_, _, _], _ => rfl, fun q hq => ?_⟩
  exact absurd hq List.not_mem_nil
theorem def_is_tuple_of (X : K.In h) (G0 : h.Ns mainGlobals mg) (c : He.SaysD fa fn K) : DefOk K mg L T 2 f_is_tuple_of (defArgs (top 24)) (defBody (top 24)) (defScope (top 24)) := by
  obtain ⟨fd, fu⟩ := c.def_ 2 (d := d_is_tuple_of) rfl
  refine ⟨sc_is_tuple_of, ok_is_tuple_of, (fun hq => absurd hq (by decide)), _, fd, fu, He.glo_ok X G0 (c.fact 2 (f := .glo "is_tuple_of") rfl), FunD.bindsN fu fun _ _ _ _ _ _ us hl => match us, hl with | [_, _], _ => rfl, fun q hq => ?_⟩
  exact absurd hq List.not_mem_nil
theorem def_handed_out (X : K.In h) (G0 : h.Ns mainGlobals mg) (c : He.SaysD fa fn K) : DefOk K mg L T 3 f_handed_out (defArgs (top 83)) (defBody (top 83)) (defScope (top 83)) := by
  obtain ⟨fd, fu⟩ := c.def_ 3 (d := d_handed_out) rfl
  refine ⟨sc_handed_out, ok_handed_out, (fun hq => absurd hq (by decide)), _, fd, fu, He.glo_ok X G0 (c.fact 3 (f := .glo "handed_out") rfl), FunD.bindsN fu fun _ _ _ _ _ _ us hl => match us, hl with | [_], _ => rfl, fun q hq => ?_⟩
  exact absurd hq List.not_mem_nil
theorem def_linked (X : K.In h) (G0 : h.Ns mainGlobals mg) (c : He.SaysD fa fn K) : DefOk K mg L T 4 f_linked (defArgs (top 84)) (defBody (top 84)) (defScope (top 84)) := by
  obtain ⟨fd, fu⟩ := c.def_ 4 (d := d_linked) rfl
  refine ⟨sc_linked, ok_linked, (fun hq => absurd hq (by decide)), _, fd, fu, He.glo_ok X G0 (c.fact 4 (f := .glo "linked") rfl), FunD.bindsN fu fun _ _ _ _ _ _ us hl => match us, hl with | [_], _ => rfl, fun q hq => ?_⟩
  exact absurd hq List.not_mem_nil
theorem def_check_form_octets (X : K.In h) (G0 : h.Ns mainGlobals mg) (c : He.SaysD fa fn K) : DefOk K mg L T 5 f_check_form_octets (defArgs (top 99)) (defBody (top 99)) (defScope (top 99)) := by
  obtain ⟨fd, fu⟩ := c.def_ 5 (d := d_check_form_octets) rfl
  refine ⟨sc_check_form_octets, ok_check_form_octets, (fun hq => absurd hq (by decide)), _, fd, fu, He.glo_ok X G0 (c.fact 5 (f := .glo "check_form_octets") rfl), FunD.bindsN fu fun _ _ _ _ _ _ us hl => match us, hl with | [_], _ => rfl, fun q hq => ?_⟩
  exact absurd hq List.not_mem_nil
theorem def_octets_of (X : K.In h) (G0 : h.Ns mainGlobals mg) (c : He.SaysD fa fn K) : DefOk K mg L T 6 f_octets_of (defArgs (top 105)) (defBody (top 105)) (defScope (top 105)) := by
  obtain ⟨fd, fu⟩ := c.def_ 6 (d := d_octets_of) rfl
  refine ⟨sc_octets_of, ok_octets_of, (fun hq => absurd hq (by decide)), _, fd, fu, He.glo_ok X G0 (c.fact 6 (f := .glo "octets_of") rfl), FunD.bindsN fu fun _ _ _ _ _ _ us hl => match us, hl with | [_], _ => rfl, fun q hq => ?_⟩
  exact absurd hq List.not_mem_nil
theorem def_octet_at (X : K.In h) (G0 : h.Ns mainGlobals mg) (c : He.SaysD fa fn K) : DefOk K mg L T 7 f_octet_at (defArgs (top 106)) (defBody (top 106)) (defScope (top 106)) := by
  obtain ⟨fd, fu⟩ := c.def_ 7 (d := d_octet_at) rfl
  refine ⟨sc_octet_at, ok_octet_at, (fun hq => absurd hq (by decide)), _, fd, fu, He.glo_ok X G0 (c.fact 7 (f := .glo "octet_at") rfl), FunD.bindsN fu fun _ _ _ _ _ _ us hl => match us, hl with | [_, _, _], _ => rfl, fun q hq => ?_⟩
  exact absurd hq List.not_mem_nil
theorem def_number_from (X : K.In h) (G0 : h.Ns mainGlobals mg) (c : He.SaysD fa fn K) : DefOk K mg L T 8 f_number_from (defArgs (top 107)) (defBody (top 107)) (defScope (top 107)) := by
  obtain ⟨fd, fu⟩ := c.def_ 8 (d := d_number_from) rfl
  refine ⟨sc_number_from, ok_number_from, (fun hq => absurd hq (by decide)), _, fd, fu, He.glo_ok X G0 (c.fact 8 (f := .glo "number_from") rfl), FunD.bindsN fu fun _ _ _ _ _ _ us hl => match us, hl with | [_, _, _], _ => rfl, fun q hq => ?_⟩
  exact absurd hq List.not_mem_nil
theorem def_code_told (X : K.In h) (G0 : h.Ns mainGlobals mg) (c : He.SaysD fa fn K) : DefOk K mg L T 9 f_code_told (defArgs (top 112)) (defBody (top 112)) (defScope (top 112)) := by
  obtain ⟨fd, fu⟩ := c.def_ 9 (d := d_code_told) rfl
  refine ⟨sc_code_told, ok_code_told, (fun hq => absurd hq (by decide)), _, fd, fu, He.glo_ok X G0 (c.fact 9 (f := .glo "code_told") rfl), FunD.bindsN fu fun _ _ _ _ _ _ us hl => match us, hl with | [_], _ => rfl, fun q hq => ?_⟩
  exact absurd hq List.not_mem_nil
theorem def__law_raised (X : K.In h) (G0 : h.Ns mainGlobals mg) (c : He.SaysD fa fn K) : DefOk K mg L T 10 f__law_raised (defArgs (top 114)) (defBody (top 114)) (defScope (top 114)) := by
  obtain ⟨fd, fu⟩ := c.def_ 10 (d := d__law_raised) rfl
  refine ⟨sc__law_raised, ok__law_raised, (fun hq => absurd hq (by decide)), _, fd, fu, He.glo_ok X G0 (c.fact 10 (f := .glo "_law_raised") rfl), FunD.bindsN fu fun _ _ _ _ _ _ us hl => match us, hl with | [_, _], _ => rfl, fun q hq => ?_⟩
  exact absurd hq List.not_mem_nil
theorem def__law_marks (X : K.In h) (G0 : h.Ns mainGlobals mg) (c : He.SaysD fa fn K) : DefOk K mg L T 11 f__law_marks (defArgs (top 115)) (defBody (top 115)) (defScope (top 115)) := by
  obtain ⟨fd, fu⟩ := c.def_ 11 (d := d__law_marks) rfl
  refine ⟨sc__law_marks, ok__law_marks, (fun _ => okq__law_marks), _, fd, fu, He.glo_ok X G0 (c.fact 11 (f := .glo "_law_marks") rfl), FunD.bindsN fu fun _ _ _ _ _ _ us hl => match us, hl with | [_], _ => rfl, fun q hq => ?_⟩
  exact absurd hq List.not_mem_nil
theorem def__law_way_right (X : K.In h) (G0 : h.Ns mainGlobals mg) (c : He.SaysD fa fn K) : DefOk K mg L T 12 f__law_way_right (defArgs (top 116)) (defBody (top 116)) (defScope (top 116)) := by
  obtain ⟨fd, fu⟩ := c.def_ 12 (d := d__law_way_right) rfl
  refine ⟨sc__law_way_right, ok__law_way_right, (fun hq => absurd hq (by decide)), _, fd, fu, He.glo_ok X G0 (c.fact 12 (f := .glo "_law_way_right") rfl), FunD.bindsN fu fun _ _ _ _ _ _ us hl => match us, hl with | [_, _], _ => rfl, fun q hq => ?_⟩
  exact absurd hq List.not_mem_nil
theorem def__law_fields_right (X : K.In h) (G0 : h.Ns mainGlobals mg) (c : He.SaysD fa fn K) : DefOk K mg L T 13 f__law_fields_right (defArgs (top 117)) (defBody (top 117)) (defScope (top 117)) := by
  obtain ⟨fd, fu⟩ := c.def_ 13 (d := d__law_fields_right) rfl
  refine ⟨sc__law_fields_right, ok__law_fields_right, (fun hq => absurd hq (by decide)), _, fd, fu, He.glo_ok X G0 (c.fact 13 (f := .glo "_law_fields_right") rfl), FunD.bindsN fu fun _ _ _ _ _ _ us hl => match us, hl with | [_], _ => rfl, fun q hq => ?_⟩
  exact absurd hq List.not_mem_nil
theorem def__law_kept_right (X : K.In h) (G0 : h.Ns mainGlobals mg) (c : He.SaysD fa fn K) : DefOk K mg L T 14 f__law_kept_right (defArgs (top 118)) (defBody (top 118)) (defScope (top 118)) := by
  obtain ⟨fd, fu⟩ := c.def_ 14 (d := d__law_kept_right) rfl
  refine ⟨sc__law_kept_right, ok__law_kept_right, (fun hq => absurd hq (by decide)), _, fd, fu, He.glo_ok X G0 (c.fact 14 (f := .glo "_law_kept_right") rfl), FunD.bindsN fu fun _ _ _ _ _ _ us hl => match us, hl with | [], _ => rfl, fun q hq => ?_⟩
  exact absurd hq List.not_mem_nil
theorem def__law_by_hand (X : K.In h) (G0 : h.Ns mainGlobals mg) (c : He.SaysD fa fn K) : DefOk K mg L T 15 f__law_by_hand (defArgs (top 119)) (defBody (top 119)) (defScope (top 119)) := by
  obtain ⟨fd, fu⟩ := c.def_ 15 (d := d__law_by_hand) rfl
  refine ⟨sc__law_by_hand, ok__law_by_hand, (fun hq => absurd hq (by decide)), _, fd, fu, He.glo_ok X G0 (c.fact 15 (f := .glo "_law_by_hand") rfl), FunD.bindsN fu fun _ _ _ _ _ _ us hl => match us, hl with | [], _ => rfl, fun q hq => ?_⟩
  exact absurd hq List.not_mem_nil
theorem def_law (X : K.In h) (G0 : h.Ns mainGlobals mg) (c : He.SaysD fa fn K) : DefOk K mg L T 16 f_law (defArgs (top 120)) (defBody (top 120)) (defScope (top 120)) := by
  obtain ⟨fd, fu⟩ := c.def_ 16 (d := d_law) rfl
  refine ⟨sc_law, ok_law, (fun hq => absurd hq (by decide)), _, fd, fu, He.glo_ok X G0 (c.fact 16 (f := .glo "law") rfl), FunD.bindsN fu fun _ _ _ _ _ _ us hl => match us, hl with | [_], _ => rfl, fun q hq => ?_⟩
  exact absurd hq List.not_mem_nil
theorem tab (X : K.In h) (G0 : h.Ns mainGlobals mg) (c : He.SaysD fa fn K) : ∀ (f : Nat) (fn : Fn), T[f]? = some fn → ∃ params body scope, DefOk K mg L T f fn params body scope
  | 0, _, e => by obtain rfl := Option.some.inj e; exact ⟨_, _, _, def_is_integer X G0 c⟩
  | 1, _, e => by obtain rfl := Option.some.inj e; exact ⟨_, _, _, def_is_between X G0 c⟩
  | 2, _, e => by obtain rfl := Option.some.inj e; exact ⟨_, _, _, def_is_tuple_of X G0 c⟩
  | 3, _, e => by obtain rfl := Option.some.inj e; exact ⟨_, _, _, def_handed_out X G0 c⟩
  | 4, _, e => by obtain rfl := Option.some.inj e; exact ⟨_, _, _, def_linked X G0 c⟩
  | 5, _, e => by obtain rfl := Option.some.inj e; exact ⟨_, _, _, def_check_form_octets X G0 c⟩
  | 6, _, e => by obtain rfl := Option.some.inj e; exact ⟨_, _, _, def_octets_of X G0 c⟩
  | 7, _, e => by obtain rfl := Option.some.inj e; exact ⟨_, _, _, def_octet_at X G0 c⟩
  | 8, _, e => by obtain rfl := Option.some.inj e; exact ⟨_, _, _, def_number_from X G0 c⟩
  | 9, _, e => by obtain rfl := Option.some.inj e; exact ⟨_, _, _, def_code_told X G0 c⟩
  | 10, _, e => by obtain rfl := Option.some.inj e; exact ⟨_, _, _, def__law_raised X G0 c⟩
  | 11, _, e => by obtain rfl := Option.some.inj e; exact ⟨_, _, _, def__law_marks X G0 c⟩
  | 12, _, e => by obtain rfl := Option.some.inj e; exact ⟨_, _, _, def__law_way_right X G0 c⟩
  | 13, _, e => by obtain rfl := Option.some.inj e; exact ⟨_, _, _, def__law_fields_right X G0 c⟩
  | 14, _, e => by obtain rfl := Option.some.inj e; exact ⟨_, _, _, def__law_kept_right X G0 c⟩
  | 15, _, e => by obtain rfl := Option.some.inj e; exact ⟨_, _, _, def__law_by_hand X G0 c⟩
  | 16, _, e => by obtain rfl := Option.some.inj e; exact ⟨_, _, _, def_law X G0 c⟩
  | _ + 17, _, e => by cases e
theorem free (X : K.In h) (G0 : h.Ns mainGlobals mg) (c : He.SaysD fa fn K) : ∀ x ∈ bs, mg x = none := by
  intro x hx
  simp only [bs, List.mem_cons, List.not_mem_nil, or_false] at hx
  rcases hx with rfl | rfl | rfl | rfl | rfl | rfl | rfl | rfl | rfl
  · exact He.free_ok X G0 (c.fact 17 (f := .free "ValueError") rfl)
  · exact He.free_ok X G0 (c.fact 18 (f := .free "bool") rfl)
  · exact He.free_ok X G0 (c.fact 19 (f := .free "int") rfl)
  · exact He.free_ok X G0 (c.fact 20 (f := .free "isinstance") rfl)
  · exact He.free_ok X G0 (c.fact 21 (f := .free "len") rfl)
  · exact He.free_ok X G0 (c.fact 22 (f := .free "range") rfl)
  · exact He.free_ok X G0 (c.fact 23 (f := .free "repr") rfl)
  · exact He.free_ok X G0 (c.fact 24 (f := .free "super") rfl)
  · exact He.free_ok X G0 (c.fact 25 (f := .free "tuple") rfl)
theorem glob (X : K.In h) (G0 : h.Ns mainGlobals mg) (c : He.SaysD fa fn K) : ∀ (i : Nat) (x : Str) (d : D), gn[i]? = some x → G[i]? = some d → ∃ v u, mg x = some u ∧ L2.RelV v u ∧ ∀ J H, RD K J H d v
  | 0, x, d, e1, e2 => by
    cases Option.some.inj e1
    cases Option.some.inj e2
    obtain ⟨t, e⟩ := He.str_ok X G0 (c.fact 26 (f := .str "MAIN" "main") rfl)
    exact ⟨.str "main", _, e, ⟨_, rfl⟩, fun J H => .str _⟩
  | 1, x, d, e1, e2 => by
    cases Option.some.inj e1
    cases Option.some.inj e2
    obtain ⟨t, e⟩ := He.int_ok X G0 (c.fact 27 (f := .int "GROUP" (128)) rfl)
    exact ⟨.int (128), _, e, ⟨_, rfl⟩, fun J H => .int _⟩
  | 2, x, d, e1, e2 => by
    cases Option.some.inj e1
    cases Option.some.inj e2
    obtain ⟨t, e⟩ := He.int_ok X G0 (c.fact 28 (f := .int "MOST_GROUPS" (5)) rfl)
    exact ⟨.int (5), _, e, ⟨_, rfl⟩, fun J H => .int _⟩
  | n + 3, x, d, e1, e2 => by first | cases e2 | (simp at e2)
abbrev allC : List Str := [("CarriedError" : PySem.Str), ("InvalidKind" : PySem.Str), ("InvalidCount" : PySem.Str), ("InvalidPart" : PySem.Str), ("Refused" : PySem.Str), ("InvalidText" : PySem.Str), ("InvalidOctets" : PySem.Str), ("InvalidPaper" : PySem.Str), ("IllKinded" : PySem.Str), ("Stuck" : PySem.Str), ("Unfit" : PySem.Str), ("Clash" : PySem.Str), ("Unknown" : PySem.Str), ("NotMet" : PySem.Str), ("Twice" : PySem.Str), ("TooMany" : PySem.Str), ("InvalidCommand" : PySem.Str)]
theorem gloX (X : K.In h) (G0 : h.Ns mainGlobals mg) (c : He.SaysD fa fn K) : ∀ x ∈ allC, mg x = some (.ref (He.ga K x)) := by
  intro x hx
  simp only [allC, List.mem_cons, List.not_mem_nil, or_false] at hx
  rcases hx with rfl | rfl | rfl | rfl | rfl | rfl | rfl | rfl | rfl | rfl | rfl | rfl | rfl | rfl | rfl | rfl | rfl
  · exact He.glo_ok X G0 (c.fact 29 (f := .glo "CarriedError") rfl)
  · exact He.glo_ok X G0 (c.fact 30 (f := .glo "InvalidKind") rfl)
  · exact He.glo_ok X G0 (c.fact 31 (f := .glo "InvalidCount") rfl)
  · exact He.glo_ok X G0 (c.fact 32 (f := .glo "InvalidPart") rfl)
  · exact He.glo_ok X G0 (c.fact 33 (f := .glo "Refused") rfl)
  · exact He.glo_ok X G0 (c.fact 34 (f := .glo "InvalidText") rfl)
  · exact He.glo_ok X G0 (c.fact 35 (f := .glo "InvalidOctets") rfl)
  · exact He.glo_ok X G0 (c.fact 36 (f := .glo "InvalidPaper") rfl)
  · exact He.glo_ok X G0 (c.fact 37 (f := .glo "IllKinded") rfl)
  · exact He.glo_ok X G0 (c.fact 38 (f := .glo "Stuck") rfl)
  · exact He.glo_ok X G0 (c.fact 39 (f := .glo "Unfit") rfl)
  · exact He.glo_ok X G0 (c.fact 40 (f := .glo "Clash") rfl)
  · exact He.glo_ok X G0 (c.fact 41 (f := .glo "Unknown") rfl)
  · exact He.glo_ok X G0 (c.fact 42 (f := .glo "NotMet") rfl)
  · exact He.glo_ok X G0 (c.fact 43 (f := .glo "Twice") rfl)
  · exact He.glo_ok X G0 (c.fact 44 (f := .glo "TooMany") rfl)
  · exact He.glo_ok X G0 (c.fact 45 (f := .glo "InvalidCommand") rfl)
theorem excs (X : K.In h) (G0 : h.Ns mainGlobals mg) (c : He.SaysD fa fn K) : ∀ x ∈ xs, ∃ C, mg x = some (.ref C) ∧ PySem.W.excIn K C He.veBase "ValueError.__new__" = true ∧ PySem.W.keepIn K (.ref C) = true ∧ PySem.W.subIn K (.ref C) (.type "BaseException") = some true ∧ PySem.W.typeIn K (.ref C) = some (.type "type") := by
  intro x hx
  simp only [xs, List.mem_cons, List.not_mem_nil, or_false] at hx
  rcases hx with rfl | rfl | rfl | rfl | rfl
  · exact ⟨_, gloX X G0 c "CarriedError" (by decide), He.exc_ok (c.fact 46 (f := .exc "CarriedError") rfl)⟩
  · exact ⟨_, gloX X G0 c "InvalidKind" (by decide), He.exc_ok (c.fact 47 (f := .exc "InvalidKind") rfl)⟩
  · exact ⟨_, gloX X G0 c "InvalidCount" (by decide), He.exc_ok (c.fact 48 (f := .exc "InvalidCount") rfl)⟩
  · exact ⟨_, gloX X G0 c "InvalidPart" (by decide), He.exc_ok (c.fact 49 (f := .exc "InvalidPart") rfl)⟩
  · exact ⟨_, gloX X G0 c "Refused" (by decide), He.exc_ok (c.fact 50 (f := .exc "Refused") rfl)⟩
theorem exm1 (c : He.SaysD fa fn K) : ∀ x y b, (x, y, b) ∈ xm.m → x ∈ allC ∧ y ∈ allC ∧ PySem.W.exmOne K (.ref (He.ga K x)) (.ref (He.ga K y)) = some b := by
  intro x y b hx
  simp only [xm, List.mem_cons, List.not_mem_nil, or_false, Prod.mk.injEq] at hx
  rcases hx with ⟨rfl, rfl, rfl⟩ | ⟨rfl, rfl, rfl⟩ | ⟨rfl, rfl, rfl⟩ | ⟨rfl, rfl, rfl⟩ | ⟨rfl, rfl, rfl⟩ | ⟨rfl, rfl, rfl⟩ | ⟨rfl, rfl, rfl⟩ | ⟨rfl, rfl, rfl⟩ | ⟨rfl, rfl, rfl⟩ | ⟨rfl, rfl, rfl⟩ | ⟨rfl, rfl, rfl⟩ | ⟨rfl, rfl, rfl⟩ | ⟨rfl, rfl, rfl⟩ | ⟨rfl, rfl, rfl⟩ | ⟨rfl, rfl, rfl⟩ | ⟨rfl, rfl, rfl⟩ | ⟨rfl, rfl, rfl⟩ | ⟨rfl, rfl, rfl⟩ | ⟨rfl, rfl, rfl⟩ | ⟨rfl, rfl, rfl⟩
  · exact ⟨by decide, by decide, He.exm_ok (c.fact 51 (f := .exm "InvalidKind" "CarriedError" true) rfl)⟩
  · exact ⟨by decide, by decide, He.exm_ok (c.fact 52 (f := .exm "InvalidCount" "CarriedError" true) rfl)⟩
  · exact ⟨by decide, by decide, He.exm_ok (c.fact 53 (f := .exm "InvalidPart" "CarriedError" true) rfl)⟩
  · exact ⟨by decide, by decide, He.exm_ok (c.fact 54 (f := .exm "Refused" "CarriedError" true) rfl)⟩
  · exact ⟨by decide, by decide, He.exm_ok (c.fact 55 (f := .exm "InvalidText" "CarriedError" true) rfl)⟩
  · exact ⟨by decide, by decide, He.exm_ok (c.fact 56 (f := .exm "InvalidOctets" "CarriedError" true) rfl)⟩
  · exact ⟨by decide, by decide, He.exm_ok (c.fact 57 (f := .exm "InvalidPaper" "CarriedError" true) rfl)⟩
  · exact ⟨by decide, by decide, He.exm_ok (c.fact 58 (f := .exm "IllKinded" "CarriedError" true) rfl)⟩
  · exact ⟨by decide, by decide, He.exm_ok (c.fact 59 (f := .exm "Stuck" "CarriedError" true) rfl)⟩
  · exact ⟨by decide, by decide, He.exm_ok (c.fact 60 (f := .exm "Unfit" "CarriedError" true) rfl)⟩
  · exact ⟨by decide, by decide, He.exm_ok (c.fact 61 (f := .exm "Clash" "CarriedError" true) rfl)⟩
  · exact ⟨by decide, by decide, He.exm_ok (c.fact 62 (f := .exm "Unknown" "CarriedError" true) rfl)⟩
  · exact ⟨by decide, by decide, He.exm_ok (c.fact 63 (f := .exm "NotMet" "CarriedError" true) rfl)⟩
  · exact ⟨by decide, by decide, He.exm_ok (c.fact 64 (f := .exm "Twice" "CarriedError" true) rfl)⟩
  · exact ⟨by decide, by decide, He.exm_ok (c.fact 65 (f := .exm "TooMany" "CarriedError" true) rfl)⟩
  · exact ⟨by decide, by decide, He.exm_ok (c.fact 66 (f := .exm "InvalidCommand" "CarriedError" true) rfl)⟩
  · exact ⟨by decide, by decide, He.exm_ok (c.fact 67 (f := .exm "CarriedError" "CarriedError" true) rfl)⟩
  · exact ⟨by decide, by decide, He.exm_ok (c.fact 68 (f := .exm "InvalidOctets" "InvalidOctets" true) rfl)⟩
  · exact ⟨by decide, by decide, He.exm_ok (c.fact 69 (f := .exm "InvalidPart" "InvalidPart" true) rfl)⟩
  · exact ⟨by decide, by decide, He.exm_ok (c.fact 70 (f := .exm "NotMet" "NotMet" true) rfl)⟩
theorem exms (X : K.In h) (G0 : h.Ns mainGlobals mg) (c : He.SaysD fa fn K) (cx : ex K = true) : XF K mg xm where
  m := fun x y b hx => let ⟨h1, h2, h3⟩ := exm1 c x y b hx; ⟨_, _, gloX X G0 c x h1, gloX X G0 c y h2, h3⟩
  g := fun x y b hx => gloX X G0 c x (exm1 c x y b hx).1
  i := fun x y b hx => by
    obtain ⟨x', m1, hx⟩ := List.mem_flatMap.mp (show (x, y, b) ∈ exA.flatMap fun x => exB.map fun y => (x, y, decide (x = y)) from hx)
    obtain ⟨y', m2, e⟩ := List.mem_map.mp hx
    cases e
    obtain ⟨e1, e2⟩ := exI_ok (ex_ok cx).2.1 x m1
    exact ⟨_, gloX X G0 c y (List.all_eq_true.mp (show (exB.all fun y => decide (y ∈ allC)) = true by decide +kernel) y m2 |> of_decide_eq_true), e1, e2 y m2⟩
  f := fun x g hx => by
    have hp : (x, g) ∈ xg := of_decide_eq_true (List.all_eq_true.mp (show (xm.f.all fun p => decide (p ∈ xg)) = true by decide +kernel) (x, g) hx)
    obtain ⟨_, h2, h3⟩ := exG_ok (ex_ok cx).1 _ hp
    exact ⟨xfB_ok h2, h3⟩
  v := exV_ok (ex_ok cx).2.2
theorem gate_InvalidText (cs : GA.SaysC fa fn gs ex K) : GA.Gate (PySem.Challenge.rw_kindscarried_k00_error_classes).prog K (He.ga K "InvalidText") "index" :=
  GA.gate_by (name := "__init__") (qual := "InvalidText.__init__") (params := defArgs (ini (top 6))) (body := defBody (ini (top 6))) (scope := defScope (ini (top 6))) (by decide +kernel) (by decide +kernel) (by decide +kernel) (by decide +kernel) (by kernel_rfl)
    (fun _ _ _ _ _ _ _ _ _ _ => ⟨by kernel_rfl, by kernel_rfl⟩) (exG_ok (ex_ok cs.more).1 ("InvalidText", "index") (by decide)).1 (cs.gate 0 (p := ("InvalidText", some ("__init__", "InvalidText.__init__", defArgs (ini (top 6)), .stmts (defBody (ini (top 6))), defScope (ini (top 6))))) rfl)
theorem gate_InvalidOctets (cs : GA.SaysC fa fn gs ex K) : GA.Gate (PySem.Challenge.rw_kindscarried_k00_error_classes).prog K (He.ga K "InvalidOctets") "index" :=
  GA.gate_by (name := "__init__") (qual := "InvalidOctets.__init__") (params := defArgs (ini (top 7))) (body := defBody (ini (top 7))) (scope := defScope (ini (top 7))) (by decide +kernel) (by decide +kernel) (by decide +kernel) (by decide +kernel) (by kernel_rfl)
    (fun _ _ _ _ _ _ _ _ _ _ => ⟨by kernel_rfl, by kernel_rfl⟩) (exG_ok (ex_ok cs.more).1 ("InvalidOctets", "index") (by decide)).1 (cs.gate 1 (p := ("InvalidOctets", some ("__init__", "InvalidOctets.__init__", defArgs (ini (top 7)), .stmts (defBody (ini (top 7))), defScope (ini (top 7))))) rfl)
theorem gate_InvalidPaper (cs : GA.SaysC fa fn gs ex K) : GA.Gate (PySem.Challenge.rw_kindscarried_k00_error_classes).prog K (He.ga K "InvalidPaper") "index" :=
  GA.gate_by (name := "__init__") (qual := "InvalidPaper.__init__") (params := defArgs (ini (top 8))) (body := defBody (ini (top 8))) (scope := defScope (ini (top 8))) (by decide +kernel) (by decide +kernel) (by decide +kernel) (by decide +kernel) (by kernel_rfl)
    (fun _ _ _ _ _ _ _ _ _ _ => ⟨by kernel_rfl, by kernel_rfl⟩) (exG_ok (ex_ok cs.more).1 ("InvalidPaper", "index") (by decide)).1 (cs.gate 2 (p := ("InvalidPaper", some ("__init__", "InvalidPaper.__init__", defArgs (ini (top 8)), .stmts (defBody (ini (top 8))), defScope (ini (top 8))))) rfl)
theorem gate_IllKinded (cs : GA.SaysC fa fn gs ex K) : GA.Gate (PySem.Challenge.rw_kindscarried_k00_error_classes).prog K (He.ga K "IllKinded") "place" :=
  GA.gate_by (name := "__init__") (qual := "IllKinded.__init__") (params := defArgs (ini (top 9))) (body := defBody (ini (top 9))) (scope := defScope (ini (top 9))) (by decide +kernel) (by decide +kernel) (by decide +kernel) (by decide +kernel) (by kernel_rfl)
    (fun _ _ _ _ _ _ _ _ _ _ => ⟨by kernel_rfl, by kernel_rfl⟩) (exG_ok (ex_ok cs.more).1 ("IllKinded", "place") (by decide)).1 (cs.gate 3 (p := ("IllKinded", some ("__init__", "IllKinded.__init__", defArgs (ini (top 9)), .stmts (defBody (ini (top 9))), defScope (ini (top 9))))) rfl)
theorem gate_Stuck (cs : GA.SaysC fa fn gs ex K) : GA.Gate (PySem.Challenge.rw_kindscarried_k00_error_classes).prog K (He.ga K "Stuck") "place" :=
  GA.gate_by (name := "__init__") (qual := "Stuck.__init__") (params := defArgs (ini (top 10))) (body := defBody (ini (top 10))) (scope := defScope (ini (top 10))) (by decide +kernel) (by decide +kernel) (by decide +kernel) (by decide +kernel) (by kernel_rfl)
    (fun _ _ _ _ _ _ _ _ _ _ => ⟨by kernel_rfl, by kernel_rfl⟩) (exG_ok (ex_ok cs.more).1 ("Stuck", "place") (by decide)).1 (cs.gate 4 (p := ("Stuck", some ("__init__", "Stuck.__init__", defArgs (ini (top 10)), .stmts (defBody (ini (top 10))), defScope (ini (top 10))))) rfl)
theorem gate_Unfit (cs : GA.SaysC fa fn gs ex K) : GA.Gate (PySem.Challenge.rw_kindscarried_k00_error_classes).prog K (He.ga K "Unfit") "place" :=
  GA.gate_by (name := "__init__") (qual := "Unfit.__init__") (params := defArgs (ini (top 11))) (body := defBody (ini (top 11))) (scope := defScope (ini (top 11))) (by decide +kernel) (by decide +kernel) (by decide +kernel) (by decide +kernel) (by kernel_rfl)
    (fun _ _ _ _ _ _ _ _ _ _ => ⟨by kernel_rfl, by kernel_rfl⟩) (exG_ok (ex_ok cs.more).1 ("Unfit", "place") (by decide)).1 (cs.gate 5 (p := ("Unfit", some ("__init__", "Unfit.__init__", defArgs (ini (top 11)), .stmts (defBody (ini (top 11))), defScope (ini (top 11))))) rfl)
theorem gate_Clash (cs : GA.SaysC fa fn gs ex K) : GA.Gate (PySem.Challenge.rw_kindscarried_k00_error_classes).prog K (He.ga K "Clash") "places" :=
  GA.gate_by (name := "__init__") (qual := "Clash.__init__") (params := defArgs (ini (top 12))) (body := defBody (ini (top 12))) (scope := defScope (ini (top 12))) (by decide +kernel) (by decide +kernel) (by decide +kernel) (by decide +kernel) (by kernel_rfl)
    (fun _ _ _ _ _ _ _ _ _ _ => ⟨by kernel_rfl, by kernel_rfl⟩) (exG_ok (ex_ok cs.more).1 ("Clash", "places") (by decide)).1 (cs.gate 6 (p := ("Clash", some ("__init__", "Clash.__init__", defArgs (ini (top 12)), .stmts (defBody (ini (top 12))), defScope (ini (top 12))))) rfl)
theorem gate_Unknown (cs : GA.SaysC fa fn gs ex K) : GA.Gate (PySem.Challenge.rw_kindscarried_k00_error_classes).prog K (He.ga K "Unknown") "word" :=
  GA.gate_by (name := "__init__") (qual := "Unknown.__init__") (params := defArgs (ini (top 13))) (body := defBody (ini (top 13))) (scope := defScope (ini (top 13))) (by decide +kernel) (by decide +kernel) (by decide +kernel) (by decide +kernel) (by kernel_rfl)
    (fun _ _ _ _ _ _ _ _ _ _ => ⟨by kernel_rfl, by kernel_rfl⟩) (exG_ok (ex_ok cs.more).1 ("Unknown", "word") (by decide)).1 (cs.gate 7 (p := ("Unknown", some ("__init__", "Unknown.__init__", defArgs (ini (top 13)), .stmts (defBody (ini (top 13))), defScope (ini (top 13))))) rfl)
theorem gate_NotMet (cs : GA.SaysC fa fn gs ex K) : GA.Gate (PySem.Challenge.rw_kindscarried_k00_error_classes).prog K (He.ga K "NotMet") "word" :=
  GA.gate_by (name := "__init__") (qual := "NotMet.__init__") (params := defArgs (ini (top 14))) (body := defBody (ini (top 14))) (scope := defScope (ini (top 14))) (by decide +kernel) (by decide +kernel) (by decide +kernel) (by decide +kernel) (by kernel_rfl)
    (fun _ _ _ _ _ _ _ _ _ _ => ⟨by kernel_rfl, by kernel_rfl⟩) (exG_ok (ex_ok cs.more).1 ("NotMet", "word") (by decide)).1 (cs.gate 8 (p := ("NotMet", some ("__init__", "NotMet.__init__", defArgs (ini (top 14)), .stmts (defBody (ini (top 14))), defScope (ini (top 14))))) rfl)
theorem gate_Twice (cs : GA.SaysC fa fn gs ex K) : GA.Gate (PySem.Challenge.rw_kindscarried_k00_error_classes).prog K (He.ga K "Twice") "word" :=
  GA.gate_by (name := "__init__") (qual := "Twice.__init__") (params := defArgs (ini (top 15))) (body := defBody (ini (top 15))) (scope := defScope (ini (top 15))) (by decide +kernel) (by decide +kernel) (by decide +kernel) (by decide +kernel) (by kernel_rfl)
    (fun _ _ _ _ _ _ _ _ _ _ => ⟨by kernel_rfl, by kernel_rfl⟩) (exG_ok (ex_ok cs.more).1 ("Twice", "word") (by decide)).1 (cs.gate 9 (p := ("Twice", some ("__init__", "Twice.__init__", defArgs (ini (top 15)), .stmts (defBody (ini (top 15))), defScope (ini (top 15))))) rfl)
theorem gate_TooMany (cs : GA.SaysC fa fn gs ex K) : GA.Gate (PySem.Challenge.rw_kindscarried_k00_error_classes).prog K (He.ga K "TooMany") "count" :=
  GA.gate_by (name := "__init__") (qual := "TooMany.__init__") (params := defArgs (ini (top 16))) (body := defBody (ini (top 16))) (scope := defScope (ini (top 16))) (by decide +kernel) (by decide +kernel) (by decide +kernel) (by decide +kernel) (by kernel_rfl)
    (fun _ _ _ _ _ _ _ _ _ _ => ⟨by kernel_rfl, by kernel_rfl⟩) (exG_ok (ex_ok cs.more).1 ("TooMany", "count") (by decide)).1 (cs.gate 10 (p := ("TooMany", some ("__init__", "TooMany.__init__", defArgs (ini (top 16)), .stmts (defBody (ini (top 16))), defScope (ini (top 16))))) rfl)
theorem gate_InvalidCommand (cs : GA.SaysC fa fn gs ex K) : GA.Gate (PySem.Challenge.rw_kindscarried_k00_error_classes).prog K (He.ga K "InvalidCommand") "index" :=
  GA.gate_by (name := "__init__") (qual := "InvalidCommand.__init__") (params := defArgs (ini (top 17))) (body := defBody (ini (top 17))) (scope := defScope (ini (top 17))) (by decide +kernel) (by decide +kernel) (by decide +kernel) (by decide +kernel) (by kernel_rfl)
    (fun _ _ _ _ _ _ _ _ _ _ => ⟨by kernel_rfl, by kernel_rfl⟩) (exG_ok (ex_ok cs.more).1 ("InvalidCommand", "index") (by decide)).1 (cs.gate 11 (p := ("InvalidCommand", some ("__init__", "InvalidCommand.__init__", defArgs (ini (top 17)), .stmts (defBody (ini (top 17))), defScope (ini (top 17))))) rfl)
theorem gates (X : K.In h) (G0 : h.Ns mainGlobals mg) (cs : GA.SaysC fa fn gs ex K) : GtOk (PySem.Challenge.rw_kindscarried_k00_error_classes).prog K mg xg := by
  intro p hp
  obtain ⟨_, h2, h3⟩ := exG_ok (ex_ok cs.more).1 p hp
  have hm := gloX X G0 cs.d p.1 (List.all_eq_true.mp (show (xg.all fun p => decide (p.1 ∈ allC)) = true by decide +kernel) p hp |> of_decide_eq_true)
  refine ⟨hm, ?_, xfB_ok h2, h3⟩
  simp only [xg, List.mem_cons, List.not_mem_nil, or_false] at hp
  rcases hp with rfl | rfl | rfl | rfl | rfl | rfl | rfl | rfl | rfl | rfl | rfl | rfl
  · exact gate_InvalidText cs
  · exact gate_InvalidOctets cs
  · exact gate_InvalidPaper cs
  · exact gate_IllKinded cs
  · exact gate_Stuck cs
  · exact gate_Unfit cs
  · exact gate_Clash cs
  · exact gate_Unknown cs
  · exact gate_NotMet cs
  · exact gate_Twice cs
  · exact gate_TooMany cs
  · exact gate_InvalidCommand cs
theorem mod (X : K.In h) (G0 : h.Ns mainGlobals mg) (cs : GA.SaysC fa fn gs ex K) : ModOk (PySem.Challenge.rw_kindscarried_k00_error_classes).prog K mg L G := ⟨free X G0 cs.d, glob X G0 cs.d, excs X G0 cs.d, exms X G0 cs.d cs.more, gates X G0 cs⟩
theorem facts {w : World} {a : Addr} (X : K.In h) (G0 : h.Ns mainGlobals mg) (ha : mg ("law" : Str) = some (.ref a)) (cs : GA.SaysC fa fn gs ex K) :
    ∃ fd : FuncData, (∀ (s : Shared) (v : Value), BindsTo s fd ⟨[v], []⟩ [("script", v)]) ∧ ∀ base : Heap, K.In base → base.Ns mainGlobals mg → FnG (PySem.Challenge.rw_kindscarried_k00_error_classes).prog w K mg base 31 a fd ["script"] (spF K mg (callN T G 31) 16 1) := by
  obtain ⟨fd, fu⟩ := cs.d.def_ 16 (d := d_law) rfl
  have e := ha.symm.trans (He.glo_ok X G0 (cs.d.fact 16 (f := .glo "law") rfl))
  cases e
  have b := FunD.bindsA (ps := ["script"]) fu fun _ _ _ _ _ _ us hl => match us, hl with | [_], _ => rfl
  refine ⟨fd, fun s v => b s [v] rfl, fun base _ _ => ?_⟩
  have t := tab_both (w := w) (base := base) (tab X G0 cs.d) (mod X G0 cs) 30
  exact def_step (fn := f_law) (mod X G0 cs) t.1 t.2 rfl sc_law ok_law fu
end
end K00
open PyProof.Rows PySem PySem.W PySem.Calls
theorem PySem.Challenge.cw_kindscarried_k00_error_classes_holds : PySem.Challenge.rw_kindscarried_k00_error_classes.Holds := by
  w_on; o_law
  refine HandSHeadRun.head_any (r := OpenLaw.row PySem.Challenge.rw_kindscarried_k00_error_classes) (q := view (OpenLaw.row PySem.Challenge.rw_kindscarried_k00_error_classes).prog [120]) (H := K00.hkD) (ob := K00.obD) (M := 20000) (loose := K00.loose) (d := HandSHeadRun.topDef (OpenLaw.row PySem.Challenge.rw_kindscarried_k00_error_classes).prog 120) (kwd := []) K00.obD_eq
    (by kernel_rfl) (fun s => by kernel_rfl) K00.run (by kernel_rfl) (by kernel_rfl) (by kernel_rfl) (by rfl) (by first | assumption | decide +kernel) (by decide +kernel) ⟨rfl, rfl, rfl, rfl, rfl, by decide +kernel⟩ ?hw ?hc
  case hw => w_witness2
  case hc =>
    refine PV.walk_g (l := PySem.Challenge.rw_kindscarried_k00_error_classes) (n := 63) (k := 31) (x := "script") rfl (by decide) (by kernel_rfl) ⟨rfl, by decide, by decide⟩ ?F
    intro w mg fa h Y G hmg0
    obtain ⟨K, KX, c⟩ := Y
    have hmg1 : mg ("law" : PySem.Str) = some (.ref fa) := by
      have e : (HandSHeadRun.topDef (OpenLaw.row PySem.Challenge.rw_kindscarried_k00_error_classes).prog 120).name = ("law" : PySem.Str) := by kernel_rfl
      rw [← e]
      exact hmg0
    obtain ⟨fd, hb, hF⟩ := K00.facts (w := w) KX G hmg1 c
    exact ⟨K, fd, _, KX, hb, fun H a ns hl hO hS => PV.law_sp (fn := K00.f_law) rfl rfl (fun ns hn => K00.law_ev ns) (by decide) H a ns hl hO hS, hF⟩
end
