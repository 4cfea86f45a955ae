import PyProof.Rows.All
import HandS.ForMost
import PyProof.ReprRoads
import HandS.SetFor
import HandS.Strs
import HandS.TupMul
import HandS.IsInst
import HandS.Zip
import HandS.Conv
import HandS.TupAny
import HandS.Deep
import HandS.ExcOwn
import HandS.TryOnly
import HandS.WordsExc
import HandS.ExcValue
import HandS.ExcField
import HandS.ExcIs
import HandS.HeadHook1
import HandS.Style
import HandS.Wide
import HandS.SortInts
import HandS.Flow
import HandS.MapObj
import KE.KDictZip
import KE.GoesMore
import PyProof.EnumMake
import PyProof.TupleOfGen
import KE.KIndexOf
import HandS.DictComp
import HandS.Small
import PyProof.ExcBaseAll.ValueError
import HandS.Defaults
import HandS.Ends
import HandS.HeadEnd
import PySem.Challenge.RW_kindscarried_k32_closed_kinds
import KE.KStateDown
import HandS.Words
import HandS.Head0
import HandS.Head1
import HandS.Head2
import HandS.HeadHook2
import HandS.HeadHook3
import HandS.HeadHook4
set_option Elab.async false
set_option linter.all false
section
/-! PvA: a small language of Python's pure part (E, S), read off the text, and its evaluator over plain data D and a list of mutable objects. -/
namespace PV
open PySem L2

/-- data: none, truths, ints, texts, tuples, lists that are never changed, mutable objects by number -/
inductive D where
  | non | bl (b : Bool) | int (i : Int) | str (x : Str)
  | tup (xs : List D) | lst (xs : List D) | ref (i : Nat)
  /-- a list that is read and never written: the script -/
  | fz (xs : List D)
  /-- a written tuple whose object is known -/
  | ftup (xs : List D)
  /-- a caught exception: its class, and its one field -/
  | exc (c : Str) | exf (c f : Str) (d : D)
  deriving Inhabited
/-- what a mutable object holds -/
inductive O where
  | lst (xs : List D) | dct (kvs : List (Key × D))
  deriving Inhabited
abbrev Hh := List O
structure Xc where
  cls : Str
  fld : Option (Str × D)
/-- .. as the clause's name has it -/
def Xc.d (x : Xc) : D := match x.fld with
  | none => .exc x.cls
  | some p => .exf x.cls p.1 p.2
inductive R (α : Type) where
  | bad | ok (a : α) (h : Hh) | err (x : Xc) (h : Hh)
def R.bind {α β : Type} (r : R α) (f : α → Hh → R β) : R β := match r with
  | .bad => .bad
  | .ok a h => f a h
  | .err x h => .err x h
@[simp] theorem R.bind_ok {α β : Type} (a : α) (h : Hh) (f : α → Hh → R β) : (R.ok a h).bind f = f a h := rfl
@[simp] theorem R.bind_bad {α β : Type} (f : α → Hh → R β) : (R.bad : R α).bind f = .bad := rfl
@[simp] theorem R.bind_err {α β : Type} (x : Xc) (h : Hh) (f : α → Hh → R β) : (R.err x h : R α).bind f = .err x h := rfl
theorem R.bind_assoc {α β γ : Type} (r : R α) (f : α → Hh → R β) (g : β → Hh → R γ) : (r.bind f).bind g = r.bind fun a h => (f a h).bind g := by cases r <;> rfl
def R.opt {α : Type} (o : Option α) (h : Hh) : R α := match o with
  | some a => .ok a h
  | none => .bad
@[simp] theorem R.opt_some {α : Type} (a : α) (h : Hh) : R.opt (some a) h = .ok a h := rfl
@[simp] theorem R.opt_none {α : Type} (h : Hh) : R.opt (none : Option α) h = .bad := rfl

/-! ### data -/
mutual
def D.eqv : D → D → Bool
  | .non, .non => true
  | .bl a, .bl b => a == b
  | .bl a, .int j => (if a then 1 else 0) == j
  | .int i, .bl b => i == (if b then 1 else 0)
  | .int i, .int j => i == j
  | .str x, .str y => decide (x = y)
  | .lst xs, .lst ys => D.eqvs xs ys
  | .tup xs, .tup ys => D.eqvs xs ys
  | _, _ => false
def D.eqvs : List D → List D → Bool
  | [], [] => true
  | x :: xs, y :: ys => D.eqv x y && D.eqvs xs ys
  | _, _ => false
end
mutual
/-- data that == and in are told of: no mutable object in it, plain signs -/
def D.lay : D → Bool
  | .non => true
  | .bl _ => true
  | .int _ => true
  | .str x => PyData.strOk x
  | .tup xs => D.lays xs
  | .lst xs => D.lays xs
  | .ref _ => false
  | .fz _ => false
  | .ftup _ => false
  | .exc _ => false
  | .exf _ _ _ => false
def D.lays : List D → Bool
  | [] => true
  | x :: xs => D.lay x && D.lays xs
end
mutual
def D.dep : D → Nat
  | .tup xs => D.deps xs + 1
  | .lst xs => D.deps xs + 1
  | _ => 0
def D.deps : List D → Nat
  | [] => 0
  | x :: xs => max (D.dep x) (D.deps xs)
end
def D.shp (d : D) : Bool := d.lay && decide (d.dep ≤ 64)
mutual
/-- the very same -/
def D.same : D → D → Bool
  | .non, .non => true
  | .bl a, .bl b => a == b
  | .int i, .int j => i == j
  | .str x, .str y => decide (x = y)
  | .lst xs, .lst ys => D.sames xs ys
  | .tup xs, .tup ys => D.sames xs ys
  | .ref i, .ref j => i == j
  | .fz xs, .fz ys => D.sames xs ys
  | _, _ => false
def D.sames : List D → List D → Bool
  | [], [] => true
  | x :: xs, y :: ys => D.same x y && D.sames xs ys
  | _, _ => false
end
mutual
/-- no object from n on in it -/
def D.rlt (n : Nat) : D → Bool
  | .ref i => decide (i < n)
  | .tup xs => D.rlts n xs
  | .lst xs => D.rlts n xs
  | .fz xs => D.rlts n xs
  | .ftup xs => D.rlts n xs
  | .exf _ _ d => D.rlt n d
  | _ => true
def D.rlts (n : Nat) : List D → Bool
  | [] => true
  | x :: xs => D.rlt n x && D.rlts n xs
end
def O.rlt (n : Nat) : O → Bool
  | .lst xs => D.rlts n xs
  | .dct kvs => kvs.all fun p => p.2.rlt n
def Hh.rlt (h : Hh) (n : Nat) : Bool := h.all (O.rlt n)

mutual
/-- data as the library's data -/
def D.py : D → PyData
  | .non => .none
  | .bl b => .bool b
  | .int i => .int i
  | .str x => .str x
  | .tup xs => .tuple (D.pys xs)
  | .lst xs => .list (D.pys xs)
  | .ref _ => .none
  | .fz _ => .none
  | .ftup _ => .none
  | .exc _ => .none
  | .exf _ _ _ => .none
def D.pys : List D → List PyData
  | [] => []
  | x :: xs => D.py x :: D.pys xs
end
/-- a mutable list, seen as it stands -/
def D.res (h : Hh) : D → D
  | .ref i => match h[i]? with
    | some (.lst xs) => .lst xs
    | _ => .ref i
  | .fz xs => .lst xs
  | d => d
/-- a list that + and * take -/
def D.own (h : Hh) : D → Option (List D)
  | .lst xs => some xs
  | .ref i => match h[i]? with
    | some (.lst xs) => some xs
    | _ => none
  | _ => none
def D.seq (h : Hh) : D → Option (List D)
  | .tup xs => some xs
  | .lst xs => some xs
  | .fz xs => some xs
  | .ftup xs => some xs
  | .ref i => match h[i]? with
    | some (.lst xs) => some xs
    | _ => none
  | _ => none
def D.key : D → Option Key
  | .int i => some (.inl i)
  | .str x => some (.inr x)
  | _ => none
def D.tru (h : Hh) : D → Option Bool
  | .non => some false
  | .bl b => some b
  | .int i => some (i != 0)
  | .str x => if x.length ≤ sizeLine then some ((x.length : Int) != 0) else none
  | .tup xs => some (!xs.isEmpty)
  | .lst xs => some (!xs.isEmpty)
  | .fz xs => some (!xs.isEmpty)
  | .ftup _ => none
  | .exc _ => none
  | .exf _ _ _ => none
  | .ref i => match h[i]? with
    | some (.lst xs) => some (!xs.isEmpty)
    | some (.dct kvs) => some (!kvs.isEmpty)
    | none => none
def D.isNon : D → Bool
  | .non => true
  | _ => false
def D.eqBl (b : Bool) : D → Bool
  | .bl a => a == b
  | _ => false
def D.isInt : D → Option Int
  | .int i => some i
  | _ => none
def D.isBl : D → Option Bool
  | .bl b => some b
  | _ => none

/-! sorted -/
def insI (x : Int) : (List Int) → (List Int)
  | [] => [x]
  | y :: r => if x ≤ y then x :: y :: r else y :: insI x r
def srtI (l : List Int) : List Int := l.foldr insI []
def insS (x : Str) : List Str → List Str
  | [] => [x]
  | y :: r => if PySem.Spec.ltCps y.cps.toList x.cps.toList then y :: insS x r else x :: y :: r
def srtS (l : List Str) : List Str := l.foldr insS []
/-- .. of a set -/
def insD (x : Int) : List Int → List Int
  | [] => [x]
  | y :: r => if x < y then x :: y :: r else if x = y then y :: r else y :: insD x r
def srtD (l : List Int) : List Int := l.foldr insD []

inductive BOp where | add | sub | mul | fdiv | mod | pow
inductive COp where | eq | ne | lt | le | gt | ge | inn | nin | is | isn
inductive Ty where | int | str | tup | lst | bl | dct | non
inductive Bf where | len | int | abs | tuple | list | max2 | min2 | sum | all | any | sorted | repr
inductive Mt where | append | pop | popAt | index | count

def mulOk (i j : Int) : Bool := decide (i.natAbs.log2 + j.natAbs.log2 < 1000000) || decide (-(2 ^ 64) < i ∧ i < 2 ^ 64) || decide (-(2 ^ 64) < j ∧ j < 2 ^ 64)
def powOk (i j : Int) : Bool := decide (0 ≤ j) && decide (j ≤ 1000000) && decide (i.natAbs < 2 ^ 64)
def sizeOk (n : Nat) : Bool := decide (n ≤ 16777216)
def cutD (xs : List D) (lo hi : Option Int) : List D := (xs.drop (HT.sIx xs.length 0 lo)).take (HT.sIx xs.length xs.length hi - HT.sIx xs.length 0 lo)

def opBin (o : BOp) (h : Hh) (x y : D) : Option D := match o with
  | .add => match x, y with
    | .int i, .int j => some (.int (i + j))
    | .str a, .str b => if sizeOk (a.length + b.length) then some (.str (a ++ b)) else none
    | .tup xs, .tup ys => if sizeOk (xs.length + ys.length) then some (.tup (xs ++ ys)) else none
    | x, y => match x.own h, y.own h with
      | some xs, some ys => if sizeOk (xs.length + ys.length) then some (.lst (xs ++ ys)) else none
      | _, _ => none
  | .sub => match x, y with
    | .int i, .int j => some (.int (i - j))
    | _, _ => none
  | .mul => match x, y with
    | .int i, .int j => if mulOk i j then some (.int (i * j)) else none
    | .tup xs, .int j => if xs ≠ [] ∧ 2 ≤ j ∧ j ≤ 1000000 ∧ j.toNat * xs.length ≤ 1000000 then some (.tup (List.replicate j.toNat xs).flatten) else none
    | x, .int j => match x.own h with
      | some xs => if 0 ≤ j ∧ j ≤ 16777216 ∧ sizeOk (xs.length * j.toNat) then some (.lst (List.replicate j.toNat xs).flatten) else none
      | _ => none
    | _, _ => none
  | .fdiv => match x, y with
    | .int i, .int j => if 0 < j ∧ j.natAbs.log2 < 9000 then some (.int (i / j)) else none
    | _, _ => none
  | .mod => match x, y with
    | .int i, .int j => if 0 < j then some (.int (i % j)) else none
    | _, _ => none
  | .pow => match x, y with
    | .int i, .int j => if powOk i j then some (.int (i ^ j.toNat)) else none
    | _, _ => none
/-- x op= y of ints and texts -/
def augOp (o : BOp) (x y : D) : Option D := match o with
  | .add => match x, y with
    | .int i, .int j => some (.int (i + j))
    | .str a, .str b => if sizeOk (a.length + b.length) then some (.str (a ++ b)) else none
    | _, _ => none
  | .sub => match x, y with
    | .int i, .int j => some (.int (i - j))
    | _, _ => none
  | .mul => none
  | .fdiv => match x, y with
    | .int i, .int j => if 0 < j ∧ j < 1073741824 then some (.int (i / j)) else none
    | _, _ => none
  | .mod => match x, y with
    | .int i, .int j => if 0 < j then some (.int (i % j)) else none
    | _, _ => none
  | .pow => none
/-- what == reads: plain data, one of both not deep -/
def D.cok (a b : D) : Bool := (a.shp && b.shp) || (a.lay && (b.lay && decide (min a.dep b.dep ≤ 64)))
def opEq (h : Hh) (x y : D) : Option Bool := match x, y with
  | .str a, .str b => some (decide (a = b))
  | x, y => if D.cok (x.res h) (y.res h) then some ((x.res h).eqv (y.res h)) else none
def valD (kvs : List (Key × D)) (k : Key) : Option D := (kvs.find? fun kv => decide (kv.1 = k)).map (·.2)
def putD (kvs : List (Key × D)) (k : Key) (v : D) : List (Key × D) :=
  if (kvs.any fun kv => decide (kv.1 = k)) = true
  then kvs.map (fun kv => if kv.1 = k then (kv.1, v) else kv) else kvs ++ [(k, v)]
def dropD (kvs : List (Key × D)) (k : Key) : List (Key × D) := kvs.filter fun kv => decide (kv.1 ≠ k)
def hasKey (k : Key) (kvs : List (Key × D)) : Bool := (valD kvs k).isSome
def opIn (h : Hh) (x y : D) : Option Bool := match y with
  | .ref i => match h[i]? with
    | some (.lst ys) => if x.shp && (D.lst ys).shp then some (ys.any fun y => y.eqv x) else none
    | some (.dct kvs) => match x.key with
      | some k => some (hasKey k kvs)
      | none => none
    | none => none
  | .lst ys => if x.shp && (D.lst ys).shp then some (ys.any fun y => y.eqv x) else none
  | .tup ys => if x.shp && (D.tup ys).shp then some (ys.any fun y => y.eqv x) else none
  | .ftup ys => if x.shp && (D.tup ys).shp then some (ys.any fun y => y.eqv x) else none
  | _ => none
def opCmp (o : COp) (h : Hh) (x y : D) : Option Bool := match o with
  | .eq => opEq h x y
  | .ne => (opEq h x y).map (!·)
  | .lt => match x, y with
    | .int i, .int j => some (decide (i < j))
    | _, _ => none
  | .le => match x, y with
    | .int i, .int j => some (decide (i ≤ j))
    | _, _ => none
  | .gt => match x, y with
    | .int i, .int j => some (decide (j < i))
    | _, _ => none
  | .ge => match x, y with
    | .int i, .int j => some (decide (j ≤ i))
    | _, _ => none
  | .inn => opIn h x y
  | .nin => (opIn h x y).map (!·)
  | .is => match y with
    | .non => some x.isNon
    | .bl b => some (x.eqBl b)
    | _ => none
  | .isn => match y with
    | .non => some (!x.isNon)
    | .bl b => some (!x.eqBl b)
    | _ => none
def opIdx (h : Hh) (x y : D) : Option D := match x, y with
  | .tup xs, .int i => atI xs i
  | .lst xs, .int i => atI xs i
  | .fz xs, .int i => atI xs i
  | .ref r, y => match h[r]?, y with
    | some (.lst xs), .int i => atI xs i
    | some (.dct kvs), y => match y.key with
      | some k => valD kvs k
      | none => none
    | _, _ => none
  | _, _ => none
def opSlc (h : Hh) (x : D) (l u : Option Int) : Option D := match x with
  | .tup xs => some (.tup (cutD xs l u))
  | x => match x.res h with
    | .lst xs => some (.lst (cutD xs l u))
    | _ => none
def opIsi (t : Ty) (h : Hh) (x : D) : Bool := match t, x with
  | .int, .int _ => true
  | .int, .bl _ => true
  | .bl, .bl _ => true
  | .non, .non => true
  | .str, .str _ => true
  | .tup, .tup _ => true
  | .lst, .lst _ => true
  | .lst, .fz _ => true
  | .lst, .ref i => match h[i]? with | some (.lst _) => true | _ => false
  | .dct, .ref i => match h[i]? with | some (.dct _) => true | _ => false
  | _, _ => false
def D.ints : List D → Option (List Int)
  | [] => some []
  | .int i :: r => (D.ints r).map (i :: ·)
  | _ => none
def D.bls : List D → Option (List Bool)
  | [] => some []
  | .bl b :: r => (D.bls r).map (b :: ·)
  | _ => none
def D.strs : List D → Option (List Str)
  | [] => some []
  | .str i :: r => (D.strs r).map (i :: ·)
  | _ => none
def D.lstOf : D → Option (List D)
  | .lst xs => some xs
  | _ => none
def bfLen (h : Hh) : List D → Option D
  | [.tup ys] => some (.int ys.length)
  | [.lst ys] => some (.int ys.length)
  | [.fz ys] => some (.int ys.length)
  | [.ftup ys] => some (.int ys.length)
  | [.str x] => if x.length ≤ sizeLine then some (.int x.length) else none
  | [.ref i] => match h[i]? with
    | some (.lst ys) => some (.int ys.length)
    | some (.dct kvs) => some (.int kvs.length)
    | none => none
  | _ => none
def bfInt : List D → Option D
  | [.int i] => some (.int i)
  | [.bl b] => some (.int (if b then 1 else 0))
  | _ => none
def bfAbs : List D → Option D
  | [.int i] => some (.int (if i < 0 then -i else i))
  | _ => none
def bfTuple (h : Hh) : List D → Option D
  | [.ftup _] => none
  | [x] => (x.seq h).map D.tup
  | _ => none
def bfList (h : Hh) : List D → Option D
  | [x] => (x.seq h).map D.lst
  | _ => none
def bfMax : List D → Option D
  | [.int i, .int j] => some (.int (if j > i then j else i))
  | _ => none
def bfMin : List D → Option D
  | [.int i, .int j] => some (.int (if j < i then j else i))
  | _ => none
def bfSum (h : Hh) : List D → Option D
  | [x] => ((x.res h).lstOf.bind D.ints).map fun ns => .int ns.sum
  | _ => none
def bfAll (h : Hh) : List D → Option D
  | [x] => ((x.res h).lstOf.bind D.bls).map fun bs => .bl (bs.all id)
  | _ => none
def bfAny (h : Hh) : List D → Option D
  | [x] => ((x.res h).lstOf.bind D.bls).map fun bs => .bl (bs.any id)
  | _ => none
def srtItems (any : Bool) (ds : List D) : Option D := match D.ints ds with
  | some ns => if any || decide (ns.length < 64) then some (.lst ((srtI ns).map .int)) else none
  | none => match D.strs ds with
    | some ss => if ss.length < 64 then some (.lst ((srtS ss).map .str)) else none
    | none => none
def keyInts : List (Key × D) → Option (List Int)
  | [] => some []
  | (.inl i, _) :: r => (keyInts r).map (i :: ·)
  | _ => none
def bfSorted (h : Hh) : List D → Option D
  | [.ftup _] => none
  | [.tup ys] => srtItems false ys
  | [.lst ys] => srtItems true ys
  | [.fz ys] => srtItems true ys
  | [.ref i] => match h[i]? with
    | some (.lst ys) => srtItems true ys
    | some (.dct kvs) => (keyInts kvs).bind fun ns => if ns.length < 64 then some (.lst ((srtI ns).map .int)) else none
    | none => none
  | _ => none
/-- sorted(set(x)) -/
def ssetOp (h : Hh) (x : D) : Option D := ((x.res h).lstOf.bind D.ints).bind fun ns => if ns.length < 64 then some (.lst ((srtD ns).map .int)) else none
def reprD (d : D) : Option D := if d.shp && d.py.showable && decide (d.py.shown.length ≤ 16777216) then some (.str d.py.shown) else none
def bfRepr (h : Hh) : List D → Option D
  | [x] => reprD (x.res h)
  | _ => none
def opBf (f : Bf) (h : Hh) (xs : List D) : Option D := match f with
  | .len => bfLen h xs
  | .int => bfInt xs
  | .abs => bfAbs xs
  | .tuple => bfTuple h xs
  | .list => bfList h xs
  | .max2 => bfMax xs
  | .min2 => bfMin xs
  | .sum => bfSum h xs
  | .all => bfAll h xs
  | .any => bfAny h xs
  | .sorted => bfSorted h xs
  | .repr => bfRepr h xs

/-! ### the syntax -/
mutual
inductive E where
  | var (i : Nat) | con (d : D) | glo (i : Nat) | miss
  | tup (es : Es) | ftup (es : Es) | lst (es : Es) | new (e : E) | dic0
  | bin (o : BOp) (a b : E) | neg (a : E)
  | cmp (o : COp) (a b : E) | chain (o p : COp) (a b c : E)
  | and (a : E) (r : Es) | or (a : E) (r : Es) | not (a : E) | ite (c a b : E)
  | idx (a i : E) | slc (a lo hi : E)
  | call (f : Nat) (es : Es) | callK (f : Nat) (es kes : Es) (ks : List Nat)
  | bf (f : Bf) (es : Es) | isi (a : E) (t : Ty)
  | mth (m : Mt) (o : E) (es : Es)
  | lc (t : Tg) (it : I) (c e : E)
  | tenum (a : E)
  | sset (a : E)
  | dcl (t : Tg) (it : I) (c k v : E)
  | trng (a : E)
  | isi2 (a : E)
  | isx (a : E) (c : Str) (yes no : List Str)
  | fld (a : E) (f : Str) (ks : List Str)
inductive Es where
  | nil | cons (e : E) (es : Es)
inductive I where
  | ev (e : E) | rng (n : E) | rng2 (a b : E) | zip (a b : E) | enum (a : E)
inductive Tg where
  | v (i : Nat) | tu (is : List Nat)
end
def E.isMiss : E → Bool
  | .miss => true
  | _ => false
mutual
inductive S where
  | asg (i : Nat) (e : E) | asgLc (i : Nat) (e : E) | par (i j : Nat) (a b : E) | unp (is : List Nat) (e : E)
  | sto (o i e : E) | aug (i : Nat) (o : BOp) (e : E) | augL (i : Nat) (e : E)
  | exp (e : E) | ret (e : E) | retN
  | ite (c : E) (a b : Ss) | whl (c : E) (b : Ss) | for_ (t : Tg) (it : I) (b : Ss)
  | pass | brk | cnt | gc (ks : List Nat) (b : S)
  | asgC (i f : Nat) (es : Es) | expC (f : Nat) (es : Es) | retC (f : Nat) (es : Es)
  | raise_ (c : Str) | try_ (b : Ss) (c : Str) (yes no : List Str) (s : Ss)
  | tryAs (b : Ss) (c : Str) (yes no : List Str) (i : Nat) (s : Ss)
inductive Ss where
  | nil | cons (s : S) (ss : Ss)
end
abbrev Env := List (Option D)
abbrev Fns := Nat → List D → Hh → R D

/-! ### the evaluator -/
/-- the items, and the object that they are read off -/
structure Src where
  items : List D
  off : Option Nat
def Src.good (s : Src) (h : Hh) : Bool := match s.off with
  | none => true
  | some i => match h[i]? with
    | some (.lst xs) => D.sames xs s.items
    | _ => false
def D.src (h : Hh) : D → Option Src
  | .tup xs => some ⟨xs, none⟩
  | .lst xs => some ⟨xs, none⟩
  | .fz xs => some ⟨xs, none⟩
  | .ftup xs => some ⟨xs, none⟩
  | .ref i => match h[i]? with
    | some (.lst xs) => some ⟨xs, some i⟩
    | _ => none
  | _ => none
def rngOk (a b : Int) : Bool := decide (-(2 ^ 62) ≤ a) && decide (a < 2 ^ 62) && decide (-(2 ^ 62) ≤ b) && decide (b < 2 ^ 62)
def rngD (a b : Int) : List D := (List.range (b - a).toNat).map fun k => .int (a + (k : Nat))
def zipD (xs ys : List D) : List D := List.zipWith (fun x y => .tup [x, y]) xs ys
def enumD (n : Nat) : List D → List D
  | [] => []
  | x :: xs => .tup [.int n, x] :: enumD (n + 1) xs
def tenumOp : D → Option D
  | .tup xs => if sizeOk xs.length then some (.tup (enumD 0 xs)) else none
  | _ => none
def zipSrc : D → D → Option Src
  | .tup xs, .tup ys => some ⟨zipD xs ys, none⟩
  | .lst xs, .lst ys => some ⟨zipD xs ys, none⟩
  | _, _ => none
def enumSrc : D → Option Src
  | .lst xs => some ⟨enumD 0 xs, none⟩
  | .fz xs => some ⟨enumD 0 xs, none⟩
  | .tup xs => some ⟨enumD 0 xs, none⟩
  | _ => none
def trngOp : D → Option D
  | .int n => if 0 ≤ n ∧ n ≤ 16777216 then some (.tup (rngD 0 n)) else none
  | _ => none
def setAll : List Nat → List D → Env → Option Env
  | [], [], ρ => some ρ
  | i :: is, x :: xs, ρ => setAll is xs (ρ.set i (some x))
  | _, _, _ => none
def Tg.put (t : Tg) (x : D) (ρ : Env) : Option Env := match t with
  | .v i => some (ρ.set i (some x))
  | .tu is => match x with
    | .tup xs => setAll is xs ρ
    | _ => none
def Tg.slots : Tg → List Nat
  | .v i => [i]
  | .tu is => is
/-- the loop of a comprehension -/
def lcLoop (good : Hh → Bool) (turn : D → Hh → R (Option D)) : List D → List D → Hh → R D
  | [], acc, h => if good h then .ok (.lst acc) h else .bad
  | x :: xs, acc, h => if good h then (match turn x h with
    | .ok (some y) h' => lcLoop good turn xs (acc ++ [y]) h'
    | .ok none h' => lcLoop good turn xs acc h'
    | _ => .bad) else .bad
/-- .. of a dict comprehension -/
def dcLoop (good : Hh → Bool) (turn : D → Hh → R (Option (Key × D))) : List D → List (Key × D) → Hh → R (List (Key × D))
  | [], acc, h => if good h then .ok acc h else .bad
  | x :: xs, acc, h => if good h then (match turn x h with
    | .ok (some p) h' => dcLoop good turn xs (putD acc p.1 p.2) h'
    | .ok none h' => dcLoop good turn xs acc h'
    | _ => .bad) else .bad
def newDct (kvs : List (Key × D)) (h : Hh) : R D := .ok (.ref h.length) (h ++ [.dct kvs])
def newObj (d : D) (h : Hh) : R D := match d with
  | .lst xs => .ok (.ref h.length) (h ++ [.lst xs])
  | _ => .bad
def mtAppend (ys : List D) : List D → Option (D × List D)
  | [x] => if sizeOk (ys.length + 1) then some (.non, ys ++ [x]) else none
  | _ => none
def mtPop (ys : List D) : List D → Option (D × List D)
  | [] => (ys[ys.length - 1]?).map fun y => (y, ys.dropLast)
  | _ => none
def mtPopAt (ys : List D) : List D → Option (D × List D)
  | [.int k] => (ixN ys.length k).bind fun j => (ys[j]?).map fun y => (y, ys.eraseIdx j)
  | _ => none
def mtL (m : Mt) (ys xs : List D) : Option (D × List D) := match m with
  | .append => mtAppend ys xs
  | .pop => mtPop ys xs
  | .popAt => mtPopAt ys xs
  | .index => none
  | .count => none
def mthRef (m : Mt) (i : Nat) (xs : List D) (h : Hh) : R D := match h[i]? with
  | some (.lst ys) => match mtL m ys xs with
    | some p => .ok p.1 (h.set i (.lst p.2))
    | none => .bad
  | _ => .bad
def mthOp (m : Mt) (o : D) (xs : List D) (h : Hh) : R D := match o with
  | .ref i => mthRef m i xs h
  | _ => .bad
/-- positional and keyword arguments in the parameters' order -/
def pmD {α : Type} (d : α) (ks : List Nat) (xs ys : List α) : List α := ks.map fun k => (xs ++ ys).getD k d
def D.isL (h : Hh) : D → Bool
  | .ref i => match h[i]? with
    | some (.lst _) => true
    | _ => false
  | .lst _ => true
  | .fz _ => true
  | _ => false
/-- what an expression does: as a value, as a test -/
structure P where
  v : Env → Hh → R D
  t : Env → Hh → R Bool
def P.plain (v : Env → Hh → R D) : P := ⟨v, fun ρ h => (v ρ h).bind fun x h1 => R.opt (x.tru h1) h1⟩
/-- .. a row of expressions: their values, and, or of them as a value, as a test -/
structure PL where
  nil : Bool
  l : Env → Hh → R (List D)
  an : Env → Hh → R D
  on : Env → Hh → R D
  at_ : Env → Hh → R Bool
  ot : Env → Hh → R Bool
/-- a slice's part -/
def vPart (m : Bool) (p : P) (ρ : Env) (h : Hh) : R (Option Int) := if m then .ok none h else (p.v ρ h).bind fun d h1 => R.opt (d.isInt.map some) h1
/-- one turn of a comprehension -/
def lcTurn (t : Tg) (c e : P) (ρ : Env) (x : D) (h : Hh) : R (Option D) := match t.put x ρ with
  | none => .bad
  | some ρ' => (c.t ρ' h).bind fun ok h3 => if ok then (e.v ρ' h3).bind fun y h4 => .ok (some y) h4 else .ok none h3
def dcEnd (y z : D) (h : Hh) : R (Option (Key × D)) := match y.key with
  | some q => .ok (some (q, z)) h
  | none => .bad
def dcTurn (t : Tg) (c k v : P) (ρ : Env) (x : D) (h : Hh) : R (Option (Key × D)) := match t.put x ρ with
  | none => .bad
  | some ρ' => (c.t ρ' h).bind fun ok h3 => if ok then (k.v ρ' h3).bind fun y h4 => (v.v ρ' h4).bind fun z h5 => dcEnd y z h5 else .ok none h3
def vBl (x : D) (h : Hh) : R Bool := R.opt x.isBl h
/-- a written tuple -/
def D.isF : D → Bool
  | .ftup _ => true
  | .exc _ => true
  | .exf _ _ _ => true
  | _ => false
/-- isinstance of a caught exception -/
def isxOp (yes no : List Str) : D → Option D
  | .exc k => if k ∈ yes then some (.bl true) else if k ∈ no then some (.bl false) else none
  | _ => none
def fldOp (f : Str) (ks : List Str) : D → Option D
  | .exf k g d => if g = f ∧ k ∈ ks then some d else none
  | _ => none
def isi2Op (h : Hh) (x : D) : Bool := opIsi .tup h x || opIsi .lst h x
/-- what t.index goes through -/
def D.ixs (h : Hh) : D → Option (List D)
  | .ftup xs => some xs
  | .lst xs => some xs
  | .fz xs => some xs
  | .ref i => match h[i]? with
    | some (.lst xs) => some xs
    | _ => none
  | _ => none
def idxD (ds : List D) : List D → Option D
  | [.int z] => (D.ints ds).bind fun ns => if z ∈ ns then some (.int (ns.idxOf z : Nat)) else none
  | _ => none
def ixD (x : D) (h : Hh) (xs : List D) : Option D := (x.ixs h).bind fun ds => idxD ds xs
def mthI (po : P) (pl : PL) : P := .plain fun ρ h => (po.v ρ h).bind fun x h1 => if (x.ixs h1).isSome then (pl.l ρ h1).bind fun xs h2 => R.opt (ixD x h2 xs) h2 else .bad
def mthP (m : Mt) (po : P) (pl : PL) : P := match m with
  | .index => mthI po pl
  | m => .plain fun ρ h => (po.v ρ h).bind fun x h1 => if x.isL h1 then (pl.l ρ h1).bind fun xs h2 => mthOp m x xs h2 else .bad
section
variable (F : Fns) (G : List D)
mutual
def evE : E → P
  | .var i => .plain fun ρ h => match ρ[i]? with
    | some (some d) => .ok d h
    | _ => .bad
  | .con d => .plain fun _ h => .ok d h
  | .glo i => .plain fun _ h => R.opt G[i]? h
  | .miss => ⟨fun _ h => .ok .non h, fun _ h => .ok true h⟩
  | .tup es => .plain fun ρ h => ((evEs es).l ρ h).bind fun xs h1 => if sizeOk xs.length then .ok (.tup xs) h1 else .bad
  | .ftup es => .plain fun ρ h => ((evEs es).l ρ h).bind fun xs h1 => if sizeOk xs.length then .ok (.ftup xs) h1 else .bad
  | .lst es => .plain fun ρ h => ((evEs es).l ρ h).bind fun xs h1 => if sizeOk xs.length then .ok (.lst xs) h1 else .bad
  | .new e => .plain fun ρ h => ((evE e).v ρ h).bind newObj
  | .dic0 => .plain fun _ h => .ok (.ref h.length) (h ++ [.dct []])
  | .bin o a b => .plain fun ρ h => ((evE a).v ρ h).bind fun x h1 => ((evE b).v ρ h1).bind fun y h2 => R.opt (opBin o h2 x y) h2
  | .neg a => .plain fun ρ h => ((evE a).v ρ h).bind fun x h1 => R.opt (x.isInt.map fun i => .int (-i)) h1
  | .cmp o a b => .plain fun ρ h => ((evE a).v ρ h).bind fun x h1 => ((evE b).v ρ h1).bind fun y h2 => R.opt ((opCmp o h2 x y).map D.bl) h2
  | .chain o p a b c => .plain fun ρ h => ((evE a).v ρ h).bind fun x h1 => ((evE b).v ρ h1).bind fun y h2 => (R.opt (opCmp o h2 x y) h2).bind fun t h3 =>
      if t then ((evE c).v ρ h3).bind fun z h4 => R.opt ((opCmp p h4 y z).map D.bl) h4 else .ok (.bl false) h3
  | .and a r => ⟨fun ρ h => ((evE a).v ρ h).bind fun x h1 => (vBl x h1).bind fun t h2 => if t then (evEs r).an ρ h2 else .ok (.bl false) h2,
      fun ρ h => ((evE a).t ρ h).bind fun t h1 => if t then (evEs r).at_ ρ h1 else .ok false h1⟩
  | .or a r => ⟨fun ρ h => ((evE a).v ρ h).bind fun x h1 => (vBl x h1).bind fun t h2 => if t then .ok (.bl true) h2 else (evEs r).on ρ h2,
      fun ρ h => ((evE a).t ρ h).bind fun t h1 => if t then .ok true h1 else (evEs r).ot ρ h1⟩
  | .not a => ⟨fun ρ h => ((evE a).v ρ h).bind fun x h1 => (vBl x h1).bind fun t h2 => .ok (.bl (!t)) h2,
      fun ρ h => ((evE a).t ρ h).bind fun t h1 => .ok (!t) h1⟩
  | .ite c a b => ⟨fun ρ h => ((evE c).t ρ h).bind fun t h1 => if t then (evE a).v ρ h1 else (evE b).v ρ h1,
      fun ρ h => ((evE c).t ρ h).bind fun t h1 => if t then (evE a).t ρ h1 else (evE b).t ρ h1⟩
  | .idx a i => .plain fun ρ h => ((evE a).v ρ h).bind fun x h1 => ((evE i).v ρ h1).bind fun y h2 => R.opt (opIdx h2 x y) h2
  | .slc a lo hi => .plain fun ρ h => ((evE a).v ρ h).bind fun x h1 => (vPart lo.isMiss (evE lo) ρ h1).bind fun l h2 => (vPart hi.isMiss (evE hi) ρ h2).bind fun u h3 => R.opt (opSlc h3 x l u) h3
  | .call f es => .plain fun ρ h => ((evEs es).l ρ h).bind fun xs h1 => F f xs h1
  | .callK f es kes ks => .plain fun ρ h => ((evEs es).l ρ h).bind fun xs h1 => ((evEs kes).l ρ h1).bind fun ys h2 => F f (pmD .non ks xs ys) h2
  | .bf f es => .plain fun ρ h => ((evEs es).l ρ h).bind fun xs h1 => R.opt (opBf f h1 xs) h1
  | .isi a t => .plain fun ρ h => ((evE a).v ρ h).bind fun x h1 => if x.isF then .bad else .ok (.bl (opIsi t h1 x)) h1
  | .mth m o es => mthP m (evE o) (evEs es)
  | .lc t it c e => .plain fun ρ h => (evI it ρ h).bind fun s h1 => if sizeOk s.items.length then lcLoop s.good (lcTurn t (evE c) (evE e) ρ) s.items [] h1 else .bad
  | .tenum a => .plain fun ρ h => ((evE a).v ρ h).bind fun x h1 => R.opt (tenumOp x) h1
  | .sset a => .plain fun ρ h => ((evE a).v ρ h).bind fun x h1 => R.opt (ssetOp h1 x) h1
  | .dcl t it c k v => .plain fun ρ h => (evI it ρ h).bind fun s h1 => if sizeOk s.items.length then (dcLoop s.good (dcTurn t (evE c) (evE k) (evE v) ρ) s.items [] h1).bind newDct else .bad
  | .trng a => .plain fun ρ h => ((evE a).v ρ h).bind fun x h1 => R.opt (trngOp x) h1
  | .isi2 a => .plain fun ρ h => ((evE a).v ρ h).bind fun x h1 => if x.isF then .bad else .ok (.bl (isi2Op h1 x)) h1
  | .isx a _ yes no => .plain fun ρ h => ((evE a).v ρ h).bind fun x h1 => R.opt (isxOp yes no x) h1
  | .fld a f ks => .plain fun ρ h => ((evE a).v ρ h).bind fun x h1 => R.opt (fldOp f ks x) h1
def evEs : Es → PL
  | .nil => ⟨true, fun _ h => .ok [] h, fun _ _ => .bad, fun _ _ => .bad, fun _ _ => .bad, fun _ _ => .bad⟩
  | .cons e es => ⟨false,
      fun ρ h => ((evE e).v ρ h).bind fun x h1 => ((evEs es).l ρ h1).bind fun xs h2 => .ok (x :: xs) h2,
      fun ρ h => if (evEs es).nil then (evE e).v ρ h else ((evE e).v ρ h).bind fun x h1 => (vBl x h1).bind fun t h2 => if t then (evEs es).an ρ h2 else .ok (.bl false) h2,
      fun ρ h => if (evEs es).nil then (evE e).v ρ h else ((evE e).v ρ h).bind fun x h1 => (vBl x h1).bind fun t h2 => if t then .ok (.bl true) h2 else (evEs es).on ρ h2,
      fun ρ h => if (evEs es).nil then (evE e).t ρ h else ((evE e).t ρ h).bind fun t h1 => if t then (evEs es).at_ ρ h1 else .ok false h1,
      fun ρ h => if (evEs es).nil then (evE e).t ρ h else ((evE e).t ρ h).bind fun t h1 => if t then .ok true h1 else (evEs es).ot ρ h1⟩
def evI : I → Env → Hh → R Src
  | .ev e, ρ, h => ((evE e).v ρ h).bind fun x h1 => R.opt (x.src h1) h1
  | .rng n, ρ, h => ((evE n).v ρ h).bind fun x h1 => R.opt (x.isInt.bind fun n => if rngOk 0 n then some ⟨rngD 0 n, none⟩ else none) h1
  | .rng2 a b, ρ, h => ((evE a).v ρ h).bind fun x h1 => ((evE b).v ρ h1).bind fun y h2 => R.opt (x.isInt.bind fun i => y.isInt.bind fun j => if rngOk i j then some ⟨rngD i j, none⟩ else none) h2
  | .zip a b, ρ, h => ((evE a).v ρ h).bind fun x h1 => ((evE b).v ρ h1).bind fun y h2 => R.opt (zipSrc x y) h2
  | .enum a, ρ, h => ((evE a).v ρ h).bind fun x h1 => R.opt (enumSrc x) h1
end

/-! ### statements -/
inductive RS where
  | bad | nxt (ρ : Env) (h : Hh) | ret (d : D) (h : Hh) | brk (ρ : Env) (h : Hh) | cnt (ρ : Env) (h : Hh) | err (ρ : Env) (x : Xc) (h : Hh)
def R.then_ {α : Type} (r : R α) (f : α → Hh → RS) : RS := match r with
  | .bad => .bad
  | .ok a h => f a h
  | .err _ _ => .bad
/-- a call whose exception goes on -/
def R.thenX {α : Type} (r : R α) (ρ : Env) (f : α → Hh → RS) : RS := match r with
  | .bad => .bad
  | .ok a h => f a h
  | .err x h => .err ρ x h
@[simp] theorem R.then_ok {α : Type} (a : α) (h : Hh) (f : α → Hh → RS) : (R.ok a h).then_ f = f a h := rfl
@[simp] theorem R.then_bad {α : Type} (f : α → Hh → RS) : (R.bad : R α).then_ f = .bad := rfl
def RS.then_ (r : RS) (f : Env → Hh → RS) : RS := match r with
  | .nxt ρ h => f ρ h
  | r => r
def RS.opt (o : Option Env) (h : Hh) : RS := match o with
  | some ρ => .nxt ρ h
  | none => .bad
def whlLoop (c : Env → Hh → R Bool) (b : Env → Hh → RS) : Nat → Env → Hh → RS
  | 0, _, _ => .bad
  | n + 1, ρ, h => (c ρ h).then_ fun t h1 => if t then (match b ρ h1 with
      | .nxt ρ' h' => whlLoop c b n ρ' h'
      | .cnt ρ' h' => whlLoop c b n ρ' h'
      | .brk ρ' h' => .nxt ρ' h'
      | r => r) else .nxt ρ h1
def forLoop (good : Hh → Bool) (t : Tg) (b : Env → Hh → RS) : List D → Env → Hh → RS
  | [], ρ, h => if good h then .nxt ρ h else .bad
  | x :: xs, ρ, h => if good h then (match t.put x ρ with
      | none => .bad
      | some ρ1 => match b ρ1 h with
        | .nxt ρ' h' => forLoop good t b xs ρ' h'
        | .cnt ρ' h' => forLoop good t b xs ρ' h'
        | .brk ρ' h' => .nxt ρ' h'
        | r => r) else .bad
/-- so many turns a while may take -/
def wfuel : Nat := 2 ^ 64
def kill : List Nat → Env → Env
  | [], ρ => ρ
  | i :: is, ρ => kill is (ρ.set i none)
def Env.rlt (n : Nat) (ρ : Env) : Bool := ρ.all fun o => match o with
  | some d => d.rlt n
  | none => true
/-- names forgotten, then the objects from n on, if nothing leads to them -/
def gcS (ks : List Nat) (n : Nat) (r : RS) : RS := match r with
  | .nxt ρ h => if Env.rlt n (kill ks ρ) && Hh.rlt (h.take n) n then .nxt (kill ks ρ) (h.take n) else .bad
  | .brk ρ h => if Env.rlt n (kill ks ρ) && Hh.rlt (h.take n) n then .brk (kill ks ρ) (h.take n) else .bad
  | .cnt ρ h => if Env.rlt n (kill ks ρ) && Hh.rlt (h.take n) n then .cnt (kill ks ρ) (h.take n) else .bad
  | r => r
def stoOp (o i x : D) (h : Hh) : Option Hh := match o with
  | .ref r => match h[r]? with
    | some (.lst ys) => match i with
      | .int k => match ixN ys.length k with
        | some j => some (h.set r (.lst (ys.set j x)))
        | none => none
      | _ => none
    | some (.dct kvs) => match i.key with
      | some k => if sizeOk (kvs.length + 1) then some (h.set r (.dct (putD kvs k x))) else none
      | none => none
    | none => none
  | _ => none
/-- a list grown by another one -/
def augLOp (r : Nat) (y : D) (h : Hh) : Option Hh := match h[r]?, y.own h with
  | some (.lst xs), some ys => if sizeOk (xs.length + ys.length) then some (h.set r (.lst (xs ++ ys))) else none
  | _, _ => none
/-- what the clause takes -/
def catchS (yes no : List Str) (f : Env → Hh → RS) (r : RS) : RS := match r with
  | .err ρ x h => if x.cls ∈ yes then f ρ h else if x.cls ∈ no then .err ρ x h else .bad
  | r => r
/-- .. and names -/
def dropS (i : Nat) (r : RS) : RS := match r with
  | .nxt ρ h => .nxt (ρ.set i none) h
  | .brk ρ h => .brk (ρ.set i none) h
  | .cnt ρ h => .cnt (ρ.set i none) h
  | r => r
def catchAs (yes no : List Str) (i : Nat) (f : Env → Hh → RS) (r : RS) : RS := match r with
  | .err ρ x h => if x.cls ∈ yes then dropS i (f (ρ.set i (some x.d)) h) else if x.cls ∈ no then .err ρ x h else .bad
  | r => r
mutual
def evS : S → Env → Hh → RS
  | .asg i e, ρ, h => ((evE F G e).v ρ h).then_ fun x h1 => .nxt (ρ.set i (some x)) h1
  | .asgLc i e, ρ, h => ((evE F G e).v ρ h).then_ fun x h1 => .nxt (ρ.set i (some x)) h1
  | .par i j a b, ρ, h => ((evE F G a).v ρ h).then_ fun x h1 => ((evE F G b).v ρ h1).then_ fun y h2 => .nxt ((ρ.set i (some x)).set j (some y)) h2
  | .unp is e, ρ, h => ((evE F G e).v ρ h).then_ fun x h1 => RS.opt ((Tg.tu is).put x ρ) h1
  | .sto o i e, ρ, h => ((evE F G e).v ρ h).then_ fun x h1 => ((evE F G o).v ρ h1).then_ fun y h2 => ((evE F G i).v ρ h2).then_ fun z h3 => match stoOp y z x h3 with
    | some h4 => .nxt ρ h4
    | none => .bad
  | .aug i o e, ρ, h => match ρ[i]? with
    | some (some x) => ((evE F G e).v ρ h).then_ fun y h1 => match augOp o x y with
      | some z => .nxt (ρ.set i (some z)) h1
      | none => .bad
    | _ => .bad
  | .augL i e, ρ, h => match ρ[i]? with
    | some (some (.ref r)) => ((evE F G e).v ρ h).then_ fun y h1 => match augLOp r y h1 with
      | some h2 => .nxt (ρ.set i (some (.ref r))) h2
      | none => .bad
    | _ => .bad
  | .exp e, ρ, h => ((evE F G e).v ρ h).then_ fun _ h1 => .nxt ρ h1
  | .ret e, ρ, h => ((evE F G e).v ρ h).then_ fun x h1 => .ret x h1
  | .retN, _, h => .ret .non h
  | .ite c a b, ρ, h => ((evE F G c).t ρ h).then_ fun t h1 => if t then evSs a ρ h1 else evSs b ρ h1
  | .whl c b, ρ, h => whlLoop (evE F G c).t (evSs b) wfuel ρ h
  | .for_ t it b, ρ, h => (evI F G it ρ h).then_ fun s h1 => forLoop s.good t (evSs b) s.items ρ h1
  | .pass, ρ, h => .nxt ρ h
  | .brk, ρ, h => .brk ρ h
  | .cnt, ρ, h => .cnt ρ h
  | .gc ks b, ρ, h => gcS ks h.length (evS b ρ h)
  | .asgC i f es, ρ, h => ((evEs F G es).l ρ h).then_ fun xs h1 => (F f xs h1).thenX ρ fun x h2 => .nxt (ρ.set i (some x)) h2
  | .expC f es, ρ, h => ((evEs F G es).l ρ h).then_ fun xs h1 => (F f xs h1).thenX ρ fun _ h2 => .nxt ρ h2
  | .retC f es, ρ, h => ((evEs F G es).l ρ h).then_ fun xs h1 => (F f xs h1).thenX ρ fun x h2 => .ret x h2
  | .raise_ c, ρ, h => .err ρ ⟨c, none⟩ h
  | .try_ b _ yes no s, ρ, h => catchS yes no (evSs s) (evSs b ρ h)
  | .tryAs b _ yes no i s, ρ, h => catchAs yes no i (evSs s) (evSs b ρ h)
def evSs : Ss → Env → Hh → RS
  | .nil, ρ, h => .nxt ρ h
  | .cons s ss, ρ, h => (evS s ρ h).then_ (evSs ss)
end
end

/-- of exception classes: (made, named in a clause, whether it is taken); (caught, asked, answer); (caught, its field) -/
structure Xm where
  m : List (Str × Str × Bool)
  i : List (Str × Str × Bool)
  f : List (Str × Str)

/-! ### defs -/
structure Fn where
  name : Str
  N : List Str
  P : List Str
  frz : Bool
  body : Ss
  /-- the shapes of its calls with keywords: so many in front, these names, the order -/
  kw : List (Nat × List Str × List Nat) := []
/-- the objects from n on, as they stand -/
def D.frz (h : Hh) (n : Nat) : Nat → D → D
  | 0, d => d
  | k + 1, d => match d with
    | .ref i => if i < n then .ref i else match h[i]? with
      | some (.lst xs) => .lst (xs.map (D.frz h n k))
      | _ => .ref i
    | .tup xs => .tup (xs.map (D.frz h n k))
    | .lst xs => .lst (xs.map (D.frz h n k))
    | d => d
/-- a def's end: its lists are from now on never changed (frz), what it made is let go -/
def finD (f : Bool) (n : Nat) (d : D) (h : Hh) : R D :=
  if f then (if (d.frz h n 4).rlt n && Hh.rlt (h.take n) n then .ok (d.frz h n 4) (h.take n) else .bad) else .ok d h
def finR (f : Bool) (n : Nat) (r : RS) : R D := match r with
  | .ret d h => finD f n d h
  | .nxt _ h => finD f n .non h
  | .err _ x h => .err x h
  | _ => .bad
def callN (T : List Fn) (G : List D) : Nat → Fns
  | 0 => fun _ _ _ => .bad
  | k + 1 => fun f args h => match T[f]? with
    | none => .bad
    | some fn => if args.length = fn.P.length then finR fn.frz h.length (evSs (callN T G k) G fn.body (args.map some ++ List.replicate (fn.N.length - args.length) none) h) else .bad
end PV
end

section
set_option maxRecDepth 100000
/-! PvX: a set made of a list of ints, sorted. -/
namespace PVX
open PySem L2 PyProof.Rows PySem.Spec
abbrev oS (w : World) : Obj := { cls := .type "set", dict := none, data := .set #[] 0 (.fresh 0 0 (!w.params.followText "set-order")) }
abbrev gS (w : World) (h : Heap) : Heap := h.push (oS w)
/-- the heap behind set(l) -/
def After (w : World) (s : Shared) (ns : List Int) (v : Value) (s2 : Shared) : Prop := v = .none ∧ ∃ (g : Heap) (tk c : Nat), s2 = { s with heap := g, toks := tk } ∧ SetR w g s.heap.objs.size (fun j => decide (j ∈ ns)) c ∧ c ≤ ns.length ∧ ∀ b o, s.heap.get? b = some o → g.get? b = some o
section
variable {P : Program} {w : World} {A : Around} {s : Shared} {E : Value → Shared → Prop}
set_option maxHeartbeats 3100000 in
theorem init_list {l : Addr} {items : Array Value} (ns : List Int) (hh : A.handled = none) (hl : s.heap.IsList l items) (hit : IntsAre items.toList ns) (hb : ns.length + 1 < scanBound) :
    codeAny (model P w) A (.call (.builtin "set.__init__") ⟨[.ref s.heap.objs.size, .ref l], []⟩) (wants (After w s ns) E) { s with heap := gS w s.heap } := by
  have zi : items.size = ns.length := by rw [← Array.length_toList]; exact IntsAre.length hit
  have at0 : (gS w s.heap).get? s.heap.objs.size = some (oS w) := Heap.get?_push_size _ rfl
  have ty0 : Shared.TypeIs { s with heap := gS w s.heap } (.ref s.heap.objs.size) "set" := ⟨_, at0, rfl⟩
  refine codeAny_call_builtin F.called_set.init.plain F.entry_set_init (check_set_init_1 ty0 ?_)
  have ll : (gS w s.heap).IsList l items := hl.push _
  obtain ⟨⟨cl, dc, dt, sl⟩, got, ec, nl, ed⟩ := hl
  cases (show cl = .type "list" from ec)
  cases (show dt = .seq items nl from ed)
  have got1 : (gS w s.heap).get? l = some { cls := .type "list", dict := dc, data := .seq items nl, slots := sl } := Heap.get?_push_of_some _ got
  have f1 := F.sub_list_set
  have f2 := F.sub_list_frozenset
  have f3 : (Value.type "list" == Value.type "dict") = false := by decide
  (unfold Builtin.«set.__init__» noKeywords Builtin.Frozenset.updateFrom)
  generalize q : pyIter = it0
  wp_walk
  subst q
  refine wpAny_pyIter_list ll (wpAny_bind (wpAny_runValue ?_))
  have lts : l < s.heap.objs.size := Heap.lt_size got
  have z1 : (gS w s.heap).objs.size = s.heap.objs.size + 1 := Heap.size_push ..
  have n1 : l ≠ (gS w s.heap).objs.size := Nat.ne_of_lt (Nat.lt_of_lt_of_le lts (by rw [z1]; exact Nat.le_succ _))
  have n2 : s.heap.objs.size ∉ [(gS w s.heap).objs.size, l] := by
    intro hm
    (rcases List.mem_cons.mp hm with e | e)
    · rw [z1] at e; omega
    · exact Nat.lt_irrefl _ (Nat.lt_of_le_of_lt (Nat.le_of_eq (List.mem_singleton.mp e)) lts)
  refine set_update_ints ((Walks.list (by simpa using hh) _ l n1 items).toS) s.heap.objs.size n2 ns zi hb (fun i v hv => ?_) (items.size - 0) 0 _ (Nat.sub_zero _) (Nat.zero_le _) ⟨⟨_, Heap.get?_push_size _ rfl, rfl, rfl⟩, ll.push _⟩ ⟨0, Nat.le_refl 0, setR_new_at (Heap.get?_push_of_some _ at0)⟩ ?_
  · have lt : i < ns.length := by rw [← zi]; exact (Array.getElem?_eq_some_iff.mp hv).1
    obtain ⟨t, e⟩ := IntsAre.int_at hit i v (by rw [Array.getElem?_toList]; exact hv)
    exact ⟨ns[i], t, List.getElem?_eq_getElem lt, by rw [e, List.getD_eq_getElem?_getD, List.getElem?_eq_getElem lt] <;> rfl⟩
  · rintro ⟨g, gn, dr, tk, os⟩ c mv hc sr
    cases (show gn = s.gens from mv.gens)
    cases (show dr = s.drawn from mv.drawn)
    cases (show os = s.os from mv.os)
    refine wpAny_pure (wpAny_pure ⟨rfl, g, tk, c, rfl, sr, by rw [← zi]; exact hc, fun b o e => ?_⟩)
    have lb : b < s.heap.objs.size := Heap.lt_size e
    refine mv.heap b o (fun hm => ?_) (Heap.get?_push_of_some _ (Heap.get?_push_of_some _ e))
    rcases List.mem_cons.mp hm with e2 | e2
    · have e2 : b = s.heap.objs.size := e2
      exact Nat.ne_of_lt lb e2
    · have e2 : b = (gS w s.heap).objs.size := List.mem_singleton.mp e2
      rw [z1] at e2; exact Nat.ne_of_lt (Nat.lt_succ_of_lt lb) e2
/-- set(l) of a list of ints -/
theorem call_set_lst {l : Addr} {items : Array Value} (ns : List Int) {Q : Value → Shared → Prop} (hh : A.handled = none) (hl : s.heap.IsList l items) (hit : IntsAre items.toList ns) (hb : ns.length + 1 < scanBound)
    (hQ : ∀ (g : Heap) (tk c : Nat), SetR w g s.heap.objs.size (fun j => decide (j ∈ ns)) c → c ≤ ns.length → (∀ b o, s.heap.get? b = some o → g.get? b = some o) → Q (.ref s.heap.objs.size) { s with heap := g, toks := tk }) :
    (wpAny (model P w) A (call (.type "set") [.ref l]) Q E s) := by
  have ft := F.called_set
  obtain ⟨c0, tl, hmro⟩ := ft.mro
  have hmade := ft.made
  have hsub := ft.sub
  (refine wpAny_call (codeAny_of_tree ?_))
  (show wpAny _ _ (callAny (.type "set") _) _ _ _)
  (refine wpAny_pure ⟨Code.quiet_builtin _ (by decide +kernel), codeAny_builtin F.entry_type_call ?_⟩)
  (rw [Around.under_plain (weight_type_call_type "set" [.ref l] []) rfl])
  have k1 := ft.notType
  have k2 := ft.canCreate
  have k3 := F.typeCall_set_1 (.ref l)
  repeat any_goals (first | assumption | wp_step)
  refine codeAny_mono (code_set_led1 (.ref l) (E := E) (Q₁ := fun v s1 => v = .ref s.heap.objs.size ∧ s1 = { s with heap := gS w s.heap }) ⟨rfl, rfl⟩) fun r s1 hr => ?_
  cases r with
  | error e => exact hr
  | ok fl => cases fl with
    | ret v =>
      obtain ⟨rfl, rfl⟩ := hr
      have k4 : Shared.TypeIs { s with heap := gS w s.heap } (.ref s.heap.objs.size) "set" := ⟨_, Heap.get?_push_size _ rfl, rfl⟩
      have k5 := ft.init.lookup
      have k6 := ft.init.bind (.ref s.heap.objs.size)
      repeat any_goals (first | assumption | wp_step)
      refine codeAny_mono (init_list (E := E) ns (A := A.in1) hh hl hit hb) fun r2 s2 hr2 => ?_
      cases r2 with
      | error e => exact hr2
      | ok fl2 => cases fl2 with
        | ret v2 =>
          obtain ⟨rfl, g, tk, c, rfl, sr, hc, keep⟩ := hr2
          repeat any_goals (first | assumption | wp_step)
          exact hQ g tk c sr hc keep
        | _ => exact hr2.elim
    | _ => exact hr.elim
/-- what stands behind a collecting of a sequence -/
def Got (s : Shared) (its : Array Value) (s2 : Shared) : Prop := s2 = { s with heap := (s.heap.push { cls := .type "list", data := .seq ([] : List Value).toArray }).update s.heap.objs.size (Obj.mapSeq (· ++ its)) }
theorem collect_seqX {Q : List Value → Shared → Prop} {a : Addr} {T : String} {o : Obj} {its : Array Value} {n : Nat} (hT : T = "list" ∨ T = "tuple") (ho : s.heap.get? a = some o) (hc : o.cls = .type T) (hd : o.data = .seq its n) (hz : its.size ≤ sizeLine)
    (hQ : ∀ g : Heap, (∀ b o2, s.heap.get? b = some o2 → g.get? b = some o2) → s.heap.objs.size ≤ g.objs.size → Q its.toList { s with heap := g }) : wpAny (model P w) A (collect (.ref a)) Q E s := by
  have k0 : (s.heap.push { cls := .type "list", data := .seq ([] : List Value).toArray }).get? s.heap.objs.size = some { cls := .type "list", data := .seq ([] : List Value).toArray } := Heap.get?_push_size _ rfl
  have k1 := Heap.get?_update_self (Obj.mapSeq (· ++ its)) k0 rfl
  have close : ∀ s2, Got s its s2 → wpAny (model P w) A (load s.heap.objs.size >>= fun ob => match ob.data with
      | .seq xs _ => pure xs.toList
      | _ => unsupported "internal:collect") Q E s2 := fun s2 e => by
    subst e
    refine wpAny_bind (wpAny_load k1 (wpAny_pure ?_))
    have e2 : ((#[] : Array Value) ++ its).toList = its.toList := by simp
    (show Q ((#[] : Array Value) ++ its).toList _)
    rw [e2]
    exact hQ _ (fun b o2 hb => (Heap.get?_update_other _ _ (Nat.ne_of_gt (Heap.lt_size hb))).trans (Heap.get?_push_of_some _ hb)) (by rw [Heap.size_update, Heap.size_push]; exact Nat.le_succ _)
  unfold collect
  refine wpAny_bind (wpAny_runValue (codeAny_builtin F.entry_proto_collect ?_)); rw [Around.under_plainId F.plain_proto_collect _]
  (show wpAny _ A.in1 (newList [] >>= fun l => again (.builtin "list.__iadd__" ⟨[l, .ref a], []⟩)) _ _ s)
  refine wpAny_bind (wpAny_newObj_type (wpAny_pure ⟨plainId_quiet F.plain_list_iadd _, codeAny_builtin F.entry_list_iadd ?_⟩)); rw [Around.under_plainId F.plain_list_iadd _]
  refine wpAny_mono (wpAny_extend_seq (hsz := hz) (A := A) (R := fun r s2 => r = .ok (.ret (.ref s.heap.objs.size)) ∧ Got s its s2) (s := { s with heap := s.heap.push { cls := .type "list", data := .seq ([] : List Value).toArray } }) _ a _ 0 hT k0 (Heap.get?_push_of_some _ ho) hc hd ⟨rfl, rfl⟩) (fun fin s2 r => ?_) (fun e s2 r => ?_)
  · cases fin with
    | done f => obtain ⟨e, r⟩ := r; cases e; exact close s2 r
    | again c => exact ⟨r.1, codeAny_mono r.2 fun rr s3 ⟨e, r⟩ => by subst e; exact close s3 r⟩
  · exact absurd r.1 (by simp)
/-- sorted(xs) of a list or a tuple -/
theorem sorted_seqI {ns : List Int} {Q : Value → Shared → Prop} {a : Addr} {T : String} {o : Obj} {its : Array Value} {n : Nat} (hT : T = "list" ∨ T = "tuple") (ho : s.heap.get? a = some o) (hc : o.cls = .type T) (hd : o.data = .seq its n) (hI : IntsAre its.toList ns) (h64 : ns.length < 64)
    (hQ : ∀ (p : Addr) (g : Heap) (c : Nat) (out : Array Value) (ns2 : List Int), (∀ b o2, s.heap.get? b = some o2 → g.get? b = some o2) → s.heap.objs.size ≤ p → g.get? p = some (seqObj "list" out c) → IntsAre out.toList ns2 → ns2.Perm ns → ns2.Pairwise (· ≤ ·) → Q (.ref p) { s with heap := g }) :
    (wpAny (model P w) A (call (.builtin "sorted") [.ref a]) Q E s) := by
  have zl : its.toList.length = ns.length := IntsAre.length hI
  have zz : its.size = ns.length := by rw [← zl, Array.length_toList]
  (refine Calls.call_function_entry kind_sorted plain_sorted entry_sorted (args_sorted1 _) ?_)
  unfold Builtin.«sorted»
  refine wpAny_bind (m := checkCount "sorted" 1 1 _) (wpAny_pure (wpAny_bind (collect_seqX (A := A.in1) hT ho hc hd (by rw [zz, sizeLine_eq]; omega) fun g keep hsz => wpAny_bind (wpAny_newList ?_ (by rw [zl, sizeLine_eq]; omega)))))
  have at1 : (g.push (seqObj "list" its.toList.toArray 0)).get? g.objs.size = some (seqObj "list" its.toList.toArray 0) := Heap.get?_push_size _ rfl
  refine wpAny_bind (wpAny_holding (wpAny_call_entry slot_list_sort ⟨_, at1, rfl⟩ entry_list_sort (list_sort_tree at1 hI (by rw [zl]; exact h64) fun out ns2 a1 a2 a3 => ⟨_, rfl, ?_⟩) (args_list_sort _)))
  obtain ⟨c, hc⟩ := sortedHeap_at (vs := its.toList) (out := out) at1
  refine wpAny_pure ⟨_, rfl, hQ g.objs.size _ c out ns2 (fun b u e => ?_) hsz hc a1 a2 a3⟩
  have e := keep b u e
  have lt := Heap.lt_size e
  exact (sortedHeap_old (Nat.ne_of_lt lt) (by rw [size_push']; exact Nat.lt_succ_of_lt lt)).trans (Heap.get?_push_of_some _ e)
theorem sorted_seqS {ns : List Str} {Q : Value → Shared → Prop} {a : Addr} {T : String} {o : Obj} {its : Array Value} {n : Nat} (hT : T = "list" ∨ T = "tuple") (ho : s.heap.get? a = some o) (hc : o.cls = .type T) (hd : o.data = .seq its n) (hI : StrsAre its.toList ns) (h64 : ns.length < 64)
    (hQ : ∀ (p : Addr) (g : Heap) (c : Nat) (out : Array Value) (ns2 : List Str), (∀ b o2, s.heap.get? b = some o2 → g.get? b = some o2) → s.heap.objs.size ≤ p → g.get? p = some (seqObj "list" out c) → StrsAre out.toList ns2 → ns2.Perm ns → sortedS ns2 = true → Q (.ref p) { s with heap := g }) :
    (wpAny (model P w) A (call (.builtin "sorted") [.ref a]) Q E s) := by
  have zl : its.toList.length = ns.length := StrsAre.length hI
  have zz : its.size = ns.length := by rw [← zl, Array.length_toList]
  (refine Calls.call_function_entry kind_sorted plain_sorted entry_sorted (args_sorted1 _) ?_)
  unfold Builtin.«sorted»
  refine wpAny_bind (m := checkCount "sorted" 1 1 _) (wpAny_pure (wpAny_bind (collect_seqX (A := A.in1) hT ho hc hd (by rw [zz, sizeLine_eq]; omega) fun g keep hsz => wpAny_bind (wpAny_newList ?_ (by rw [zl, sizeLine_eq]; omega)))))
  have at1 : (g.push (seqObj "list" its.toList.toArray 0)).get? g.objs.size = some (seqObj "list" its.toList.toArray 0) := Heap.get?_push_size _ rfl
  refine wpAny_bind (wpAny_holding (wpAny_call_entry slot_list_sort ⟨_, at1, rfl⟩ entry_list_sort (list_sort_treeK strKind_oneLt at1 hI.keysOf (fun v1 v2 r e => keyKind_strs (by rw [← e]; exact hI)) (by rw [zl]; exact h64) fun st a1 a2 => ⟨_, rfl, ?_⟩) (args_list_sort _)))
  obtain ⟨ns2, b1, b2, b3⟩ := sorted_out_str hI a1 a2
  obtain ⟨c, hc⟩ := sortedHeap_at (vs := its.toList) (out := (arrOf st).map (·.2)) at1
  refine wpAny_pure ⟨_, rfl, hQ g.objs.size _ c _ ns2 (fun b u e => ?_) hsz hc b1 b2 b3⟩
  have e := keep b u e
  have lt := Heap.lt_size e
  exact (sortedHeap_old (Nat.ne_of_lt lt) (by rw [size_push']; exact Nat.lt_succ_of_lt lt)).trans (Heap.get?_push_of_some _ e)
end
section
variable {X : Cx}
def rSetL (K : PySem.W.Frag) (w : World) : List V → Hp → VK → Prop := fun xs H Q => ∃ (a : Addr) (ns : List Int), xs = [.ref a] ∧ SqL K H a (ns.map V.int) ∧ ns.length < 64 ∧ ∀ p c, H p = none → c ≤ ns.length → Q (.ref p) (upd H p (SetO w p (fun j => decide (j ∈ ns)) c))
theorem cr_setL (hc : X.calm = true) : CallR X (.type "set") (rSetL X.K X.w) := by
  intro pins s σ H xs us Q I r ⟨a, ns, e, hs, h64, q⟩
  subst e
  (obtain ⟨its, rv, hl, _⟩ := I.list hs)
  rw [Vals.ref1 r]
  have hi : IntsAre its.toArray.toList ns := by simpa using rv.ints
  exact call_set_lst ns (I.ok.hd hc) hl.isList hi (by unfold scanBound; omega) fun g tk c sr hc2 keep => ⟨.ref _, _, I.laid (t' := tk) keep (Nat.le_refl _) (setO_new sr), rfl, q _ c (I.hok.fresh (Nat.le_refl _)) hc2⟩
def rSrtI (K : PySem.W.Frag) : List V → Hp → VK → Prop := fun xs H Q => ∃ (a : Addr) (ns : List Int), xs = [.ref a] ∧ (SqL K H a (ns.map V.int) ∨ SqT K H a (ns.map V.int)) ∧ ns.length < 64 ∧ ∀ (ns2 : List Int) (p : Addr), ns2.Perm ns → ns2.Pairwise (· ≤ ·) → H p = none → Q (.ref p) (upd H p (.lst (ns2.map V.int)))
def rSrtS (K : PySem.W.Frag) : List V → Hp → VK → Prop := fun xs H Q => ∃ (a : Addr) (ns : List Str), xs = [.ref a] ∧ (SqL K H a (ns.map V.str) ∨ SqT K H a (ns.map V.str)) ∧ ns.length < 64 ∧ ∀ (ns2 : List Str) (p : Addr), ns2.Perm ns → sortedS ns2 = true → H p = none → Q (.ref p) (upd H p (.lst (ns2.map V.str)))
theorem cr_srtI : CallR X (.builtin "sorted") (rSrtI X.K) := by
  intro pins s σ H xs us Q I r ⟨a, ns, e, hs, h64, q⟩
  subst e
  rw [Vals.ref1 r]
  obtain ⟨its, T, o, n, rv, hT, ho, hc, hd⟩ : ∃ (its : List Value) (T : String) (o : Obj) (n : Nat), Vals (ns.map V.int) its ∧ (T = "list" ∨ T = "tuple") ∧ s.heap.get? a = some o ∧ o.cls = .type T ∧ o.data = .seq its.toArray n := by
    rcases hs with hs | hs
    · obtain ⟨its, rv, hl, _⟩ := I.list hs
      obtain ⟨o, ho, hc, n, hd⟩ := hl.isList
      exact ⟨its, _, o, n, rv, .inl rfl, ho, hc, hd⟩
    · obtain ⟨its, rv, ⟨o, ho, hc, n, hd⟩, _⟩ := I.tuple hs
      exact ⟨its, _, o, n, rv, .inr rfl, ho, hc, hd⟩
  refine sorted_seqI hT ho hc hd (by simpa using rv.ints) h64 fun p g c out ns2 keep hp hg a1 a2 a3 => ?_
  have hlen : (ns2.map V.int).length ≤ sizeLine := by rw [List.length_map, a2.length_eq]; exact small64 h64
  exact ⟨.ref p, _, I.laid (t' := s.toks) (o := .lst (ns2.map V.int)) keep hp ⟨hlen, out.toList, c, vals_of_ints a1, hg⟩, rfl, q ns2 p a2 a3 (I.hok.fresh hp)⟩
theorem cr_srtS : CallR X (.builtin "sorted") (rSrtS X.K) := by
  intro pins s σ H xs us Q I r ⟨a, ns, e, hs, h64, q⟩
  subst e
  rw [Vals.ref1 r]
  obtain ⟨its, T, o, n, rv, hT, ho, hc, hd⟩ : ∃ (its : List Value) (T : String) (o : Obj) (n : Nat), Vals (ns.map V.str) its ∧ (T = "list" ∨ T = "tuple") ∧ s.heap.get? a = some o ∧ o.cls = .type T ∧ o.data = .seq its.toArray n := by
    rcases hs with hs | hs
    · obtain ⟨its, rv, hl, _⟩ := I.list hs
      obtain ⟨o, ho, hc, n, hd⟩ := hl.isList
      exact ⟨its, _, o, n, rv, .inl rfl, ho, hc, hd⟩
    · obtain ⟨its, rv, ⟨o, ho, hc, n, hd⟩, _⟩ := I.tuple hs
      exact ⟨its, _, o, n, rv, .inr rfl, ho, hc, hd⟩
  refine sorted_seqS hT ho hc hd (by simpa using rv.strs) h64 fun p g c out ns2 keep hp hg a1 a2 a3 => ?_
  have hlen : (ns2.map V.str).length ≤ sizeLine := by rw [List.length_map, a2.length_eq]; exact small64 h64
  exact ⟨.ref p, _, I.laid (t' := s.toks) (o := .lst (ns2.map V.str)) keep hp ⟨hlen, out.toList, c, vals_of_strs a1, hg⟩, rfl, q ns2 p a2 a3 (I.hok.fresh hp)⟩
/-- a tuple times a number, more of them -/
def rTimes (K : PySem.W.Frag) : R2 := fun x y H Q => ∃ l k xs, x = .ref l ∧ y = .int k ∧ SqT K H l xs ∧ xs ≠ [] ∧ 2 ≤ k ∧ k ≤ 1000000 ∧ k.toNat * xs.length ≤ 1000000 ∧ ∀ p, H p = none → Q (.ref p) (upd H p (.tup (List.replicate k.toNat xs).flatten))
theorem op_times : OpR X (binaryOp .Mult) (rTimes X.K) := by
  intro pins s σ H x y v u Q I rx ry ⟨l, k, xs, ex, ey, hT, hne, k1, k2, kz, q⟩
  subst ex; subst ey
  cases rx
  obtain ⟨t, rfl⟩ := ry
  obtain ⟨its, r, ⟨⟨cls, dd, data, sl⟩, got, ec, n, ed⟩, _⟩ := I.tuple hT
  cases (show cls = .type "tuple" from ec)
  cases (show data = .seq its.toArray n from ed)
  have zl : its.length = xs.length := r.length.symm
  have lz : (its.toArray.size : Nat) = xs.length := by rw [List.size_toArray, zl]
  have pos : 0 < xs.length := List.length_pos_iff.mpr hne
  have kn : ((k.toNat : Nat) : Int) = k := Int.toNat_of_nonneg (by omega)
  have pz : ((its.toArray.size : Nat) : Int) * k ≤ 1000000 := by
    have z : ((k.toNat * xs.length : Nat) : Int) ≤ ((1000000 : Nat) : Int) := Int.ofNat_le.mpr kz
    rw [Int.natCast_mul, kn] at z
    rw [lz, Int.mul_comm]; exact z
  have em : its.toArray.isEmpty = false := by
    cases its with
    | nil => rw [List.length_nil] at zl; omega
    | cons _ _ => rfl
  have fl : (List.replicate k.toNat its).flatten.length ≤ sizeLine := by rw [PyProof.Rows.lm_len_rep_flat, zl, sizeLine_eq]; omega
  have d0 : (decide (k < -(2 ^ 63)) || decide (k ≥ 2 ^ 63)) = false := by
    (rw [decide_eq_false (by omega), decide_eq_false (by omega)] <;> rfl)
  have d1 : (its.toArray.isEmpty || k == 1) = false := by rw [em]; simp; omega
  have d2 : (decide (k ≤ 0) || its.toArray.isEmpty) = false := by rw [em]; simp; omega
  have d4 : Builtin.Tuple.tupleTooMany (((its.toArray.size : Nat) : Int) * k) = false := by
    unfold Builtin.Tuple.tupleTooMany; rw [sizeLine_eq]; exact decide_eq_false (by omega)
  have mul := tuple_mulW l its.toArray n dd sl k t d0 d1 d2 (by omega) d4 (by rw [size_rep, List.size_toArray]; exact fl)
  refine wpAny_binaryOp_repeat_ref (T := "tuple") (U := "int") (by decide) ⟨_, got, rfl⟩ (fun s2 => typeIs_int s2 k t) noFill_tuple_mul F.fills_int_mul F.slot_int_rmul repeat_tuple F.slot_int_index.lookup (call_meets F.slot_int_rmul (typeIs_int s k t) F.entry_int_rmul (F.args_int_rmul_2 _ _) (int_rmul_tuple k t l its.toArray n dd sl) ⟨got, rfl, ⟨_, got, rfl⟩, call_meets F.slot_tuple_mul ⟨_, got, rfl⟩ F.entry_tuple_mul (F.args_tuple_mul_2 _ _) mul ⟨got, ?_⟩⟩)
  rw [size_rep]
  exact ⟨.ref s.heap.objs.size, _, I.laid (t' := s.toks) (o := .tup (List.replicate k.toNat xs).flatten) (fun b ob e => Heap.get?_push_of_some _ e) (Nat.le_refl _) ⟨by rw [PyProof.Rows.lm_len_rep_flat, sizeLine_eq]; omega, _, r.rep k.toNat, IsTup.new _ _⟩, rfl, q _ (I.hok.fresh (Nat.le_refl _))⟩
end
end PVX
end

section
set_option maxRecDepth 100000
namespace PV
open L2 PySem PySem.Spec PyProof.Rows

/-- an exception object of the class cls, its dict d -/
def ExD (cls : Value) (d : Option Addr) (a : Addr) : HO := .ext fun h => ∃ (oe : Obj) (vs : Array Value), h.get? a = some oe ∧ Zc cls d oe ∧ oe.data = .fields vs
/-- where the mutable objects stand; addresses that no data may name -/
structure Jn where
  l : List Addr
  z : List Addr
section
variable (K : PySem.W.Frag)
mutual
/-- data as it lies in the heap -/
inductive RD (J : Jn) (H : Hp) : D → V → Prop
  | non : RD J H .non .non
  | bl (b : Bool) : RD J H (.bl b) (.bl b)
  | int (i : Int) : RD J H (.int i) (.int i)
  | str (x : Str) : RD J H (.str x) (.str x)
  | tup {a : Addr} {ds : List D} {vs : List V} : a ∉ J.l → a ∉ J.z → H a = some (.tup vs) → vs.length ≤ sizeLine → RDs J H ds vs → RD J H (.tup ds) (.ref a)
  | ktup {a : Addr} {ds : List D} {vs : List V} (k : ∃ (o : Obj) (its : Array Value) (n : Nat), K.lookup a = some o ∧ o.cls = .type "tuple" ∧ o.data = .seq its n ∧ its.size ≤ sizeLine ∧ Vals vs its.toList) : vs.length ≤ sizeLine → RDs J H ds vs → RD J H (.tup ds) (.ref a)
  | lst {a : Addr} {ds : List D} {vs : List V} : a ∉ J.l → a ∉ J.z → H a = some (.lst vs) → vs.length ≤ sizeLine → RDs J H ds vs → RD J H (.lst ds) (.ref a)
  | ref {i : Nat} {a : Addr} : J.l[i]? = some a → RD J H (.ref i) (.ref a)
  | fz {a : Addr} {o : Obj} {ds : List D} {vs : List V} : a ∉ J.l → a ∉ J.z → H a = some (.frz o (.lst vs)) → vs.length ≤ sizeLine → RDs J H ds vs → RD J H (.fz ds) (.ref a)
  | ft {a : Addr} {o : Obj} {ds : List D} {vs : List V} : a ∉ J.l → a ∉ J.z → H a = some (.frz o (.tup vs)) → o.cls = .type "tuple" → o.dict = none → vs.length ≤ sizeLine → RDs J H ds vs → RD J H (.ftup ds) (.ref a)
  | kfz {a : Addr} {ds : List D} {vs : List V} (k : ∃ (o : Obj) (its : Array Value) (n : Nat), K.lookup a = some o ∧ o.cls = .type "list" ∧ o.dict = none ∧ o.data = .seq its n ∧ its.size ≤ sizeLine ∧ Vals vs its.toList) : vs.length ≤ sizeLine → RDs J H ds vs → RD J H (.fz ds) (.ref a)
  | exc {a : Addr} {c : Str} : a ∉ J.l → a ∉ J.z → H a = some (ExD (.ref (He.ga K c)) none a) → RD J H (.exc c) (.ref a)
  | exf {a b : Addr} {c f : Str} {d : D} {v : V} : a ∉ J.l → a ∉ J.z → H a = some (ExD (.ref (He.ga K c)) (some b) a) → b ∉ J.l → b ∉ J.z → H b = some (.xd [(f, v)]) → RD J H d v → RD J H (.exf c f d) (.ref a)
inductive RDs (J : Jn) (H : Hp) : List D → List V → Prop
  | nil : RDs J H [] []
  | cons {d : D} {ds : List D} {v : V} {vs : List V} : RD J H d v → RDs J H ds vs → RDs J H (d :: ds) (v :: vs)
end
inductive RO (J : Jn) (H : Hp) : O → HO → Prop
  | lst {ds : List D} {vs : List V} : vs.length ≤ sizeLine → RDs K J H ds vs → RO J H (.lst ds) (.lst vs)
  | dct {kvs : List (Key × D)} {kws : List (Key × V)} : kws.length ≤ sizeLine → Paired (fun p q => p.1 = q.1 ∧ RD K J H p.2 q.2) kvs kws → RO J H (.dct kvs) (.dK kws)
structure RH (J : Jn) (h : Hh) (H : Hp) : Prop where
  nd : J.l.Nodup
  len : J.l.length = h.length
  obj : ∀ (i : Nat) (o : O), h[i]? = some o → ∃ a u, J.l[i]? = some a ∧ H a = some u ∧ RO K J H o u
  apart : ∀ a ∈ J.z, a ∉ J.l
  zed : ∀ a ∈ J.z, H a ≠ none
end
/-- what stood, stands, but for the mutable objects; the new ones were not there -/
structure Ext (J : Jn) (H : Hp) (J' : Jn) (H' : Hp) : Prop where
  z : J'.z = J.z
  pre : ∃ m, J'.l = J.l ++ m ∧ ∀ a ∈ m, H a = none
  keep : ∀ a o, a ∉ J.l → H a = some o → H' a = some o

section
variable {K : PySem.W.Frag} {J J' J2 : Jn} {H H' H2 : Hp} {h h' : Hh} {d : D} {v : V} {ds : List D} {vs : List V}
theorem RDs.length (r : RDs K J H ds vs) : ds.length = vs.length := by
  induction ds generalizing vs with
  | nil => cases r; rfl
  | cons d ds ih => cases r with | cons _ t => simp [ih t]
theorem RDs.get : ∀ {ds : List D} {vs : List V} {i : Nat} {d : D}, RDs K J H ds vs → ds[i]? = some d → ∃ v, vs[i]? = some v ∧ RD K J H d v
  | _, _, _, _, .nil, e => (by simp at e)
  | _, _, 0, _, .cons r _, e => (by simp at e; subst e; exact ⟨_, rfl, r⟩)
  | _, _, i + 1, _, .cons _ t, e => by
    obtain ⟨v, h1, h2⟩ := RDs.get (i := i) t (by simpa using e)
    exact ⟨v, by simpa using h1, h2⟩
theorem RDs.getV : ∀ {ds : List D} {vs : List V} {i : Nat} {v : V}, RDs K J H ds vs → vs[i]? = some v → ∃ d, ds[i]? = some d ∧ RD K J H d v
  | _, _, _, _, .nil, e => (by simp at e)
  | _, _, 0, _, .cons r _, e => (by simp at e; subst e; exact ⟨_, rfl, r⟩)
  | _, _, i + 1, _, .cons _ t, e => by
    obtain ⟨v, h1, h2⟩ := RDs.getV (i := i) t (by simpa using e)
    exact ⟨v, by simpa using h1, h2⟩
theorem RDs.append : ∀ {ds es : List D} {vs ws : List V}, RDs K J H ds vs → RDs K J H es ws → RDs K J H (ds ++ es) (vs ++ ws)
  | _, _, _, _, .nil, s => s
  | _, _, _, _, .cons r t, s => .cons r (RDs.append t s)
theorem RDs.take : ∀ {ds : List D} {vs : List V} (n : Nat), RDs K J H ds vs → RDs K J H (ds.take n) (vs.take n)
  | _, _, 0, _ => by simp; exact .nil
  | _, _, _ + 1, .nil => .nil
  | _, _, n + 1, .cons r t => .cons r (RDs.take n t)
theorem RDs.drop : ∀ {ds : List D} {vs : List V} (n : Nat), RDs K J H ds vs → RDs K J H (ds.drop n) (vs.drop n)
  | _, _, 0, r => r
  | _, _, _ + 1, .nil => .nil
  | _, _, n + 1, .cons _ t => RDs.drop n t
theorem RDs.set : ∀ {ds : List D} {vs : List V} (i : Nat) {d : D} {v : V}, RD K J H d v → RDs K J H ds vs → RDs K J H (ds.set i d) (vs.set i v)
  | _, _, _, _, _, _, .nil => .nil
  | _, _, 0, _, _, r, .cons _ t => .cons r t
  | _, _, i + 1, _, _, r, .cons q t => .cons q (RDs.set i r t)
theorem RDs.eraseIdx : ∀ {ds : List D} {vs : List V} (i : Nat), RDs K J H ds vs → RDs K J H (ds.eraseIdx i) (vs.eraseIdx i)
  | _, _, _, .nil => .nil
  | _, _, 0, .cons _ t => t
  | _, _, i + 1, .cons q t => .cons q (RDs.eraseIdx i t)
theorem RDs.dropLast (r : RDs K J H ds vs) : RDs K J H ds.dropLast vs.dropLast := by
  rw [List.dropLast_eq_take, List.dropLast_eq_take, r.length]
  exact r.take _
theorem RDs.replicate (r : RDs K J H ds vs) : ∀ n : Nat, RDs K J H (List.replicate n ds).flatten (List.replicate n vs).flatten
  | 0 => .nil
  | n + 1 => by
    (rw [List.replicate_succ, List.replicate_succ, List.flatten_cons, List.flatten_cons])
    exact r.append (RDs.replicate r n)

theorem Ext.refl : Ext J H J H := ⟨rfl, ⟨[], by simp, by simp⟩, fun _ _ _ e => e⟩
theorem Ext.notin (e : Ext J H J' H') {a : Addr} {o : HO} (n : a ∉ J.l) (q : H a = some o) : a ∉ J'.l := by
  obtain ⟨m, hm, f⟩ := e.pre
  rw [hm]
  intro hm
  rcases List.mem_append.mp hm with z | z
  · exact n z
  · rw [f a z] at q; cases q
theorem Ext.get (e : Ext J H J' H') {i : Nat} {a : Addr} (q : J.l[i]? = some a) : J'.l[i]? = some a := by
  obtain ⟨m, hm, _⟩ := e.pre
  have hl : i < J.l.length := (List.getElem?_eq_some_iff.mp q).1
  rw [hm, List.getElem?_append_left hl]; exact q
mutual
theorem RD.ext (e : Ext J H J' H') : ∀ {d : D} {v : V}, RD K J H d v → RD K J' H' d v
  | _, _, .non => .non
  | _, _, .bl b => .bl b
  | _, _, .int i => .int i
  | _, _, .str x => .str x
  | _, _, .tup n m q z r => .tup (e.notin n q) (by rw [e.z]; exact m) (e.keep _ _ n q) z (RDs.ext e r)
  | _, _, .ktup k z r => .ktup k z (RDs.ext e r)
  | _, _, .lst n m q z r => .lst (e.notin n q) (by rw [e.z]; exact m) (e.keep _ _ n q) z (RDs.ext e r)
  | _, _, .ref q => .ref (e.get q)
  | _, _, .fz n m q z r => .fz (e.notin n q) (by rw [e.z]; exact m) (e.keep _ _ n q) z (RDs.ext e r)
  | _, _, .kfz k z r => .kfz k z (RDs.ext e r)
  | _, _, .ft n m q c d z r => .ft (e.notin n q) (by rw [e.z]; exact m) (e.keep _ _ n q) c d z (RDs.ext e r)
  | _, _, .exc n m q => .exc (e.notin n q) (by rw [e.z]; exact m) (e.keep _ _ n q)
  | _, _, .exf n m q n2 m2 q2 r => .exf (e.notin n q) (by rw [e.z]; exact m) (e.keep _ _ n q) (e.notin n2 q2) (by rw [e.z]; exact m2) (e.keep _ _ n2 q2) (RD.ext e r)
theorem RDs.ext (e : Ext J H J' H') : ∀ {ds : List D} {vs : List V}, RDs K J H ds vs → RDs K J' H' ds vs
  | _, _, .nil => .nil
  | _, _, .cons r t => .cons (RD.ext e r) (RDs.ext e t)
end
theorem RO.ext (e : Ext J H J' H') {o : O} {u : HO} (r : RO K J H o u) : RO K J' H' o u := by
  cases r with
  | lst z r => exact .lst z (r.ext e)
  | dct z r => exact .dct z (Paired.mapP r fun p q x => ⟨x.1, x.2.ext e⟩)
/-- the same data under other sets of addresses -/
structure Sub (J : Jn) (H : Hp) (J' : Jn) (H' : Hp) : Prop where
  l : ∀ a o, a ∉ J.l → a ∉ J.z → H a = some o → a ∉ J'.l ∧ a ∉ J'.z ∧ H' a = some o
  get : ∀ (i : Nat) a, J.l[i]? = some a → J'.l[i]? = some a
mutual
theorem RD.sub (e : Sub J H J' H') : ∀ {d : D} {v : V}, RD K J H d v → RD K J' H' d v
  | _, _, .non => .non
  | _, _, .bl b => .bl b
  | _, _, .int i => .int i
  | _, _, .str x => .str x
  | _, _, .tup n m q z r => .tup (e.l _ _ n m q).1 (e.l _ _ n m q).2.1 (e.l _ _ n m q).2.2 z (RDs.sub e r)
  | _, _, .ktup k z r => .ktup k z (RDs.sub e r)
  | _, _, .lst n m q z r => .lst (e.l _ _ n m q).1 (e.l _ _ n m q).2.1 (e.l _ _ n m q).2.2 z (RDs.sub e r)
  | _, _, .ref q => .ref (e.get _ _ q)
  | _, _, .fz n m q z r => .fz (e.l _ _ n m q).1 (e.l _ _ n m q).2.1 (e.l _ _ n m q).2.2 z (RDs.sub e r)
  | _, _, .kfz k z r => .kfz k z (RDs.sub e r)
  | _, _, .ft n m q c d z r => .ft (e.l _ _ n m q).1 (e.l _ _ n m q).2.1 (e.l _ _ n m q).2.2 c d z (RDs.sub e r)
  | _, _, .exc n m q => .exc (e.l _ _ n m q).1 (e.l _ _ n m q).2.1 (e.l _ _ n m q).2.2
  | _, _, .exf n m q n2 m2 q2 r => .exf (e.l _ _ n m q).1 (e.l _ _ n m q).2.1 (e.l _ _ n m q).2.2 (e.l _ _ n2 m2 q2).1 (e.l _ _ n2 m2 q2).2.1 (e.l _ _ n2 m2 q2).2.2 (RD.sub e r)
theorem RDs.sub (e : Sub J H J' H') : ∀ {ds : List D} {vs : List V}, RDs K J H ds vs → RDs K J' H' ds vs
  | _, _, .nil => .nil
  | _, _, .cons r t => .cons (RD.sub e r) (RDs.sub e t)
end
theorem RO.sub (e : Sub J H J' H') {o : O} {u : HO} (r : RO K J H o u) : RO K J' H' o u := by
  cases r with
  | lst z r => exact .lst z (r.sub e)
  | dct z r => exact .dct z (Paired.mapP r fun p q x => ⟨x.1, x.2.sub e⟩)
theorem RH.at (r : RH K J h H) {i : Nat} {a : Addr} (q : J.l[i]? = some a) : ∃ o u, h[i]? = some o ∧ H a = some u ∧ RO K J H o u := by
  have hl : i < h.length := by rw [← r.len]; exact (List.getElem?_eq_some_iff.mp q).1
  obtain ⟨a', u, h1, h2, h3⟩ := r.obj i h[i] (List.getElem?_eq_getElem hl)
  rw [q] at h1; cases h1
  exact ⟨_, u, List.getElem?_eq_getElem hl, h2, h3⟩
theorem RH.inl (r : RH K J h H) {a : Addr} (hm : a ∈ J.l) : ∃ u, H a = some u := by
  obtain ⟨i, hi⟩ := List.mem_iff_getElem?.mp hm
  obtain ⟨o, u, _, h2, _⟩ := r.at hi
  exact ⟨u, h2⟩
theorem RH.notin (r : RH K J h H) {a : Addr} (q : H a = none) : a ∉ J.l := fun hm => by
  obtain ⟨u, h2⟩ := r.inl hm
  rw [q] at h2; cases h2
theorem RH.notz (r : RH K J h H) {a : Addr} (q : H a = none) : a ∉ J.z := fun hm => r.zed a hm q
theorem Ext.trans (r : RH K J h H) (r1 : RH K J' h' H') (e : Ext J H J' H') (e2 : Ext J' H' J2 H2) : Ext J H J2 H2 := by
  obtain ⟨m, hm, f⟩ := e.pre
  obtain ⟨m2, hm2, f2⟩ := e2.pre
  refine ⟨e2.z.trans e.z, ⟨m ++ m2, by rw [hm2, hm, List.append_assoc], fun a ha => ?_⟩, fun a o n q => e2.keep a o (e.notin n q) (e.keep a o n q)⟩
  rcases List.mem_append.mp ha with z | z
  · exact f a z
  · cases q : H a with
    | none => rfl
    | some u =>
      exfalso
      by_cases n : a ∈ J.l
      · obtain ⟨u', h2⟩ := r1.inl (a := a) (by rw [hm]; exact List.mem_append_left _ n)
        rw [f2 a z] at h2; cases h2
      · have := e.keep a u n q
        rw [f2 a z] at this; cases this
/-- a new thing that no object holds -/
theorem Ext.laid {p : Addr} {o : HO} (n : H p = none) : Ext J H J (upd H p o) :=
  ⟨rfl, ⟨[], by simp, by simp⟩, fun a u _ q => by rw [upd_ne (ne_of_none q n)]; exact q⟩
theorem RH.laid {p : Addr} {o : HO} (r : RH K J h H) (n : H p = none) : RH K J h (upd H p o) :=
  ⟨r.nd, r.len, fun i ob e => by
    obtain ⟨a, u, h1, h2, h3⟩ := r.obj i ob e
    exact ⟨a, u, h1, by rw [upd_ne (ne_of_none h2 n)]; exact h2, h3.ext (Ext.laid n)⟩, r.apart, fun a ha => by
    by_cases z : a = p
    · subst z; rw [upd_same]; simp
    · rw [upd_ne z]; exact r.zed a ha⟩
/-- a new thing, hidden -/
abbrev Jn.hide (J : Jn) (p : Addr) : Jn := ⟨J.l, p :: J.z⟩
abbrev Jn.own (J : Jn) (p : Addr) : Jn := ⟨J.l ++ [p], J.z⟩
theorem Sub.hide {p : Addr} (n : H p = none) : Sub J H (J.hide p) H :=
  ⟨fun a o x y q => ⟨x, fun hm => (List.mem_cons.mp hm).elim (fun z => by subst z; rw [n] at q; cases q) y, q⟩, fun _ _ q => q⟩
theorem RH.hide {p : Addr} {o : HO} (r : RH K J h H) (n : H p = none) : RH K (J.hide p) h (upd H p o) := by
  have r2 := r.laid (o := o) n
  refine ⟨r.nd, r.len, fun i ob e => ?_, fun a ha => ?_, fun a ha => ?_⟩
  · obtain ⟨a, u, h1, h2, h3⟩ := r.obj i ob e
    exact ⟨a, u, h1, by rw [upd_ne (ne_of_none h2 n)]; exact h2, (h3.sub (Sub.hide n)).ext (Ext.laid n)⟩
  · rcases List.mem_cons.mp ha with z | z
    · subst z; exact r.notin n
    · exact r.apart a z
  · rcases List.mem_cons.mp ha with z | z
    · subst z; rw [upd_same]; simp
    · exact r2.zed a z
/-- a hidden thing is shown -/
theorem Sub.show_ {p : Addr} : Sub (J.hide p) H J H := ⟨fun a o x y q => ⟨x, fun hm => y (List.mem_cons_of_mem _ hm), q⟩, fun _ _ q => q⟩
theorem RH.show_ {p : Addr} (r : RH K (J.hide p) h H) : RH K J h H :=
  ⟨r.nd, r.len, fun i ob e => let ⟨a, u, h1, h2, h3⟩ := r.obj i ob e; ⟨a, u, h1, h2, h3.sub Sub.show_⟩, fun a ha => r.apart a (List.mem_cons_of_mem _ ha), fun a ha => r.zed a (List.mem_cons_of_mem _ ha)⟩
/-- .. becomes an object -/
theorem Sub.own {p : Addr} : Sub (J.hide p) H (J.own p) H :=
  ⟨fun a o x y q => ⟨fun hm => (List.mem_append.mp hm).elim x fun z => y (by simp at z; subst z; exact List.mem_cons_self), fun hm => y (List.mem_cons_of_mem _ hm), q⟩,
   fun i a q => by show (J.l ++ [p])[i]? = _; rw [List.getElem?_append_left (List.getElem?_eq_some_iff.mp q).1]; exact q⟩
theorem RH.own {p : Addr} {o : O} {u : HO} (r : RH K (J.hide p) h H) (np : p ∉ J.z) (q : H p = some u) (ro : RO K (J.hide p) H o u) : RH K (J.own p) (h ++ [o]) H := by
  have n : p ∉ J.l := r.apart p List.mem_cons_self
  refine ⟨?_, by show (J.l ++ [p]).length = _; rw [List.length_append, List.length_append, r.len]; rfl, fun i ob e => ?_, fun a ha hm => ?_, fun a ha => r.zed a (List.mem_cons_of_mem _ ha)⟩
  · show (J.l ++ [p]).Nodup
    exact List.nodup_append.mpr ⟨r.nd, by simp, fun a ha b hb => by simp at hb; rw [hb]; rintro rfl; exact n ha⟩
  · have hll : J.l.length = h.length := r.len
    by_cases hi : i < h.length
    · rw [List.getElem?_append_left hi] at e
      obtain ⟨a, w, h1, h2, h3⟩ := r.obj i ob e
      have h1 : J.l[i]? = some a := h1
      exact ⟨a, w, by show (J.l ++ [p])[i]? = _; rw [List.getElem?_append_left (by omega)]; exact h1, h2, h3.sub Sub.own⟩
    · have hi2 : i = h.length := by
        have := (List.getElem?_eq_some_iff.mp e).1
        simp at this; omega
      subst hi2
      rw [List.getElem?_append_right (Nat.le_refl _)] at e
      simp at e; subst e
      exact ⟨p, u, by show (J.l ++ [p])[_]? = _; rw [← hll, List.getElem?_append_right (Nat.le_refl _)]; simp, q, ro.sub Sub.own⟩
  · rcases List.mem_append.mp hm with z | z
    · exact r.apart a (List.mem_cons_of_mem _ ha) z
    · simp at z; subst z; exact np ha
theorem Ext.own {p : Addr} (n : H p = none) (e : Ext J H J' H') : Ext J H (J'.own p) H' := by
  obtain ⟨m, hm, f⟩ := e.pre
  refine ⟨e.z, ⟨m ++ [p], by show J'.l ++ [p] = _; rw [hm, List.append_assoc], fun a ha => ?_⟩, e.keep⟩
  rcases List.mem_append.mp ha with z | z
  · exact f a z
  · simp at z; rw [z]; exact n
/-- a hidden thing is written -/
theorem Sub.writeZ {p : Addr} {u : HO} (hp : p ∈ J.z) : Sub J H J (upd H p u) :=
  ⟨fun a o x y q => ⟨x, y, by rw [upd_ne (show a ≠ p by rintro rfl; exact y hp)]; exact q⟩, fun _ _ q => q⟩
theorem RH.writeZ {p : Addr} {u : HO} (r : RH K J h H) (hp : p ∈ J.z) : RH K J h (upd H p u) :=
  ⟨r.nd, r.len, fun i ob e => by
    obtain ⟨a, w, h1, h2, h3⟩ := r.obj i ob e
    refine ⟨a, w, h1, ?_, h3.sub (Sub.writeZ hp)⟩
    rw [upd_ne]; exact h2
    rintro rfl; exact r.apart _ hp (List.mem_of_getElem? h1), r.apart, fun a ha => by
    by_cases z : a = p
    · subst z; rw [upd_same]; simp
    · rw [upd_ne z]; exact r.zed a ha⟩
/-- an object written -/
theorem Ext.write {i : Nat} {a : Addr} {u : HO} (q : J.l[i]? = some a) : Ext J H J (upd H a u) :=
  ⟨rfl, ⟨[], by simp, by simp⟩, fun b o n e => by rw [upd_ne]; exact e; rintro rfl; exact n (List.mem_of_getElem? q)⟩
theorem RH.write {i : Nat} {a : Addr} {o : O} {u : HO} (r : RH K J h H) (q : J.l[i]? = some a) (ro : RO K J (upd H a u) o u) : RH K J (h.set i o) (upd H a u) := by
  refine ⟨r.nd, by simp [r.len], fun j ob e => ?_, r.apart, fun b hb => ?_⟩
  · by_cases hj : i = j
    · subst hj
      have hl : i < h.length := by rw [← r.len]; exact (List.getElem?_eq_some_iff.mp q).1
      rw [List.getElem?_set_self hl] at e; cases e
      exact ⟨a, u, q, upd_same, ro⟩
    · rw [List.getElem?_set_ne hj] at e
      obtain ⟨b, w, h1, h2, h3⟩ := r.obj j ob e
      have nb : b ≠ a := by
        rintro rfl
        obtain ⟨l1, e1⟩ := List.getElem?_eq_some_iff.mp q
        obtain ⟨l2, e2⟩ := List.getElem?_eq_some_iff.mp h1
        exact hj ((List.getElem_inj r.nd).mp (e1.trans e2.symm))
      exact ⟨b, w, h1, by rw [upd_ne nb]; exact h2, h3.ext (Ext.write q)⟩
  · rw [upd_ne]; exact r.zed b hb
    rintro rfl; exact r.apart _ hb (List.mem_of_getElem? q)

/-! ### the names -/
structure RE (K : PySem.W.Frag) (J : Jn) (H : Hp) (ρ : Env) (σ : L2.St) : Prop where
  len : ρ.length = σ.length
  get : ∀ (i : Nat) (d : D), ρ[i]? = some (some d) → ∃ v, σ[i]? = some (some v) ∧ RD K J H d v
variable {ρ : Env} {σ : L2.St}
theorem RE.ext (r : RE K J H ρ σ) (e : Ext J H J' H') : RE K J' H' ρ σ := ⟨r.len, fun i d q => let ⟨v, a, b⟩ := r.get i d q; ⟨v, a, b.ext e⟩⟩
theorem RE.set (r : RE K J H ρ σ) (i : Nat) {d : D} {v : V} (x : RD K J H d v) : RE K J H (ρ.set i (some d)) (σ.set i (some v)) := by
  refine ⟨by simp [r.len], fun j e q => ?_⟩
  by_cases hj : i = j
  · subst hj
    have hl : i < ρ.length := by
      have := (List.getElem?_eq_some_iff.mp q).1
      simpa using this
    rw [List.getElem?_set_self hl] at q
    cases q
    exact ⟨v, by rw [List.getElem?_set_self (by rw [← r.len]; exact hl)], x⟩
  · rw [List.getElem?_set_ne hj] at q
    obtain ⟨w, a, b⟩ := r.get j e q
    exact ⟨w, by rw [List.getElem?_set_ne hj]; exact a, b⟩
theorem RE.drop (r : RE K J H ρ σ) (i : Nat) : RE K J H (ρ.set i none) (σ.set i none) := by
  refine ⟨by simp [r.len], fun j e q => ?_⟩
  by_cases hj : i = j
  · subst hj
    by_cases hl : i < ρ.length
    · rw [List.getElem?_set_self hl] at q; cases q
    · rw [List.getElem?_eq_none (by simpa using hl)] at q; cases q
  · rw [List.getElem?_set_ne hj] at q
    obtain ⟨w, a, b⟩ := r.get j e q
    exact ⟨w, by rw [List.getElem?_set_ne hj]; exact a, b⟩
theorem RE.lose (r : RE K J H ρ σ) (i : Nat) : RE K J H (ρ.set i none) σ := by
  refine ⟨by simp [r.len], fun j e q => ?_⟩
  by_cases hj : i = j
  · subst hj
    by_cases hl : i < ρ.length
    · rw [List.getElem?_set_self hl] at q; cases q
    · rw [List.getElem?_eq_none (by simpa using hl)] at q; cases q
  · rw [List.getElem?_set_ne hj] at q
    exact r.get j e q
end

/-! ### what is wanted behind a piece -/
abbrev RelA (α β : Type) := Jn → Hp → α → β → Prop
def Post (K : PySem.W.Frag) {α β : Type} (J : Jn) (H : Hp) (Rl : RelA α β) (r : R α) (Q : β → Hp → Prop) : Prop := match r with
  | .ok a h' => ∀ J' H' b, Ext J H J' H' → RH K J' h' H' → Rl J' H' a b → Q b H'
  | _ => False
/-- an exception, as it is told -/
def RXd (K : PySem.W.Frag) (J : Jn) (H : Hp) (x : Xc) (d : Option Addr) : Prop := match x.fld with
  | none => d = none
  | some p => ∃ b v, d = some b ∧ b ∉ J.l ∧ b ∉ J.z ∧ H b = some (.xd [(p.1, v)]) ∧ RD K J H p.2 v
def RX (K : PySem.W.Frag) (mg : Str → Option Value) (J : Jn) (H : Hp) (x : Xc) (cls : Value) (d : Option Addr) : Prop := (∃ C, cls = .ref C ∧ mg x.cls = some (.ref C)) ∧ RXd K J H x d
/-- behind a def, that may let one out -/
def PostX (K : PySem.W.Frag) (mg : Str → Option Value) (E : XK) {α β : Type} (J : Jn) (H : Hp) (Rl : RelA α β) (r : R α) (Q : β → Hp → Prop) : Prop := match r with
  | .ok a h' => ∀ J' H' b, Ext J H J' H' → RH K J' h' H' → Rl J' H' a b → Q b H'
  | .err x h' => ∀ J' H' cls d, Ext J H J' H' → RH K J' h' H' → RX K mg J' H' x cls d → E cls d H'
  | .bad => False
theorem Post.x {K : PySem.W.Frag} {mg : Str → Option Value} {E : XK} {α β : Type} {J : Jn} {H : Hp} {Rl : RelA α β} {r : R α} {Q : β → Hp → Prop} (p : Post K J H Rl r Q) : PostX K mg E J H Rl r Q := by
  cases r with
  | ok a h => exact p
  | err x h => exact False.elim p
  | bad => exact p
theorem PostX.ext {K : PySem.W.Frag} {mg : Str → Option Value} {E : XK} {α β : Type} {J J' : Jn} {H H' : Hp} {h h' : Hh} {Rl : RelA α β} {r : R α} {Q : β → Hp → Prop} (rh : RH K J h H) (rh' : RH K J' h' H') (e : Ext J H J' H') (p : PostX K mg E J H Rl r Q) : PostX K mg E J' H' Rl r Q := by
  cases r with
  | ok a h2 => exact fun J2 H2 b e2 rh2 rl => p J2 H2 b (e.trans rh rh' e2) rh2 rl
  | err x h2 => exact fun J2 H2 c d e2 rh2 rx => p J2 H2 c d (e.trans rh rh' e2) rh2 rx
  | bad => exact p
section
variable {K : PySem.W.Frag} {J J' : Jn} {H H' : Hp} {h h' : Hh} {ρ : Env} {σ : L2.St} {α β γ δ : Type}
theorem Post.mono {Rl : RelA α β} {r : R α} {Q Q' : β → Hp → Prop} (p : Post K J H Rl r Q) (f : ∀ b H', Q b H' → Q' b H') : Post K J H Rl r Q' := by
  cases r with
  | ok a h' => exact fun J' H' b e rh rl => f _ _ (p J' H' b e rh rl)
  | bad => exact p
  | err _ _ => exact p
theorem Post.ext {Rl : RelA α β} {r : R α} {Q : β → Hp → Prop} (rh : RH K J h H) (rh' : RH K J' h' H') (e : Ext J H J' H') (p : Post K J H Rl r Q) : Post K J' H' Rl r Q := by
  cases r with
  | ok a h2 => exact fun J2 H2 b e2 rh2 rl => p J2 H2 b (e.trans rh rh' e2) rh2 rl
  | bad => exact p
  | err _ _ => exact p
/-- a reading by an evaluator's function -/
def tG (K : PySem.W.Frag) (Rl : RelA α β) (f : Env → Hh → R α) : L2.St → Hp → (β → Hp → Prop) → Prop := fun σ H Q => ∃ ρ h J, RE K J H ρ σ ∧ RH K J h H ∧ Post K J H Rl (f ρ h) Q
abbrev rD (K : PySem.W.Frag) : RelA D V := RD K
abbrev rDs (K : PySem.W.Frag) : RelA (List D) (List V) := RDs K
abbrev rB : RelA Bool Bool := fun _ _ a b => a = b
/-- step by step -/
theorem Post.step {R1 : RelA α β} {R2 : RelA γ δ} {f : Env → Hh → R α} {g : α → Hh → R γ} {Q : δ → Hp → Prop} (re : RE K J H ρ σ) (rh : RH K J h H) (p : Post K J H R2 ((f ρ h).bind g) Q) :
    tG K R1 f σ H (fun b H1 => ∃ J1 h1 a, Ext J H J1 H1 ∧ RE K J1 H1 ρ σ ∧ RH K J1 h1 H1 ∧ R1 J1 H1 a b ∧ Post K J1 H1 R2 (g a h1) Q) := by
  refine ⟨ρ, h, J, re, rh, ?_⟩
  cases q : f ρ h with
  | ok a h1 =>
    rw [q] at p
    exact fun J1 H1 b e rh1 rl => ⟨J1, h1, a, e, re.ext e, rh1, rl, Post.ext rh rh1 e p⟩
  | bad => rw [q] at p; exact p
  | err _ _ => rw [q] at p; exact p
theorem Post.opt {Rl : RelA α β} {o : Option α} {Q : β → Hp → Prop} (rh : RH K J h H) (p : Post K J H Rl (R.opt o h) Q) : ∃ a, o = some a ∧ ∀ b, Rl J H a b → Q b H := by
  cases o with
  | none => exact False.elim p
  | some a => exact ⟨a, rfl, fun b rl => p J H b Ext.refl rh rl⟩
/-- .. with a further thing laid -/
theorem Post.optX {Rl : RelA α β} {o : Option α} {Q : β → Hp → Prop} (p : Post K J H Rl (R.opt o h) Q) : ∃ a, o = some a ∧ ∀ J' H' b, Ext J H J' H' → RH K J' h H' → Rl J' H' a b → Q b H' := by
  cases o with
  | none => exact False.elim p
  | some a => exact ⟨a, rfl, p⟩
theorem tG.mono {Rl : RelA α β} {f : Env → Hh → R α} {Q Q' : β → Hp → Prop} (p : tG K Rl f σ H Q) (m : ∀ b H', Q b H' → Q' b H') : tG K Rl f σ H Q' :=
  let ⟨ρ, h, J, re, rh, q⟩ := p; ⟨ρ, h, J, re, rh, q.mono m⟩
end
theorem _root_.L2.PE.imp {X : Cx} {e : Expr} {t t' : TE} (h : PE X e t) (i : ∀ σ H Q, t' σ H Q → t σ H Q) : PE X e t' := ⟨fun p s σ H Q I q => h.run p s σ H Q I (i σ H Q q)⟩
theorem _root_.L2.PT.imp {X : Cx} {e : Expr} {t t' : TT} (h : PT X e t) (i : ∀ σ H Q, t' σ H Q → t σ H Q) : PT X e t' := ⟨fun p s σ H Q I q => h.run p s σ H Q I (i σ H Q q)⟩
theorem _root_.L2.PW.imp {X : Cx} {e : Expr} {t t' : TT} (h : PW X e t) (i : ∀ σ H Q, t' σ H Q → t σ H Q) : PW X e t' := ⟨fun w p s σ H Q I q => h.run w p s σ H Q I (i σ H Q q)⟩
theorem _root_.L2.PA.imp {X : Cx} {es : List Expr} {t t' : TA} (h : PA X es t) (i : ∀ σ H Q, t' σ H Q → t σ H Q) : PA X es t' := ⟨fun w p s σ H Q I q => h.run w p s σ H Q I (i σ H Q q)⟩
theorem _root_.L2.PI.imp {X : Cx} {tg e : Expr} {t t' : TI} (h : PI X tg e t) (i : ∀ σ H Q, t' σ H Q → t σ H Q) : PI X tg e t' := ⟨fun p s σ H Q I q => h.run p s σ H Q I (i σ H Q q)⟩
theorem _root_.L2.PG.imp {X : Cx} {e : Expr} {t t' : TG} (h : PG X e t) (i : ∀ v σ H Q, t' v σ H Q → t v σ H Q) : PG X e t' := ⟨fun p s σ H v u Q I r q => h.run p s σ H v u Q I r (i v σ H Q q)⟩
theorem _root_.L2.PS.imp {X : Cx} {e : Stmt} {t t' : TS} (h : PS X e t) (i : ∀ D σ H, t' D σ H → t D σ H) : PS X e t' := ⟨fun p s σ H D I q => h.run p s σ H D I (i D σ H q)⟩
theorem _root_.L2.PSs.imp {X : Cx} {e : List Stmt} {t t' : TS} (h : PSs X e t) (i : ∀ D σ H, t' D σ H → t D σ H) : PSs X e t' := ⟨fun p s σ H D I q => h.run p s σ H D I (i D σ H q)⟩
end PV
end

section
set_option maxRecDepth 100000
namespace PV
open L2 PySem PySem.Spec PyProof.Rows

/-! ### what a value is, by its data -/
section
variable {K : PySem.W.Frag} {J J' : Jn} {H H' : Hp} {h h' : Hh} {d : D} {v : V} {ds : List D} {vs : List V}
theorem size_of {n : Nat} (h : sizeOk n = true) : n ≤ sizeLine := by rw [sizeLine_eq]; exact of_decide_eq_true h
theorem RD.int_inv {i : Int} (r : RD K J H (.int i) v) : v = .int i := by cases r; rfl
theorem RD.bl_inv {b : Bool} (r : RD K J H (.bl b) v) : v = .bl b := by cases r; rfl
theorem RD.str_inv {x : Str} (r : RD K J H (.str x) v) : v = .str x := by cases r; rfl
theorem RD.tup_inv (r : RD K J H (.tup ds) v) : ∃ a vs, v = .ref a ∧ SqT K H a vs ∧ vs.length ≤ sizeLine ∧ RDs K J H ds vs := by
  cases r with
  | tup n m q z r => exact ⟨_, _, rfl, .inl (.inl q), z, r⟩
  | ktup k z r => exact ⟨_, _, rfl, .inr k, z, r⟩
theorem RD.ft_inv (r : RD K J H (.ftup ds) v) : ∃ a vs, v = .ref a ∧ SqT K H a vs ∧ vs.length ≤ sizeLine ∧ RDs K J H ds vs := by
  cases r with
  | ft n m q c d z r => exact ⟨_, _, rfl, .inl (.inr ⟨_, q⟩), z, r⟩
theorem own_inv (rh : RH K J h H) (e : d.own h = some ds) (r : RD K J H d v) : ∃ a vs, v = .ref a ∧ H a = some (.lst vs) ∧ vs.length ≤ sizeLine ∧ RDs K J H ds vs := by
  cases d with
  | lst xs =>
    cases r with
    | lst n m q z r => cases e; exact ⟨_, _, rfl, q, z, r⟩
  | ref i =>
    cases r with
    | ref q =>
      obtain ⟨o, u, h1, h2, h3⟩ := rh.at q
      simp only [D.own, h1] at e
      cases h3 with
      | lst z r => cases e; exact ⟨_, _, rfl, h2, z, r⟩
      | dct z r => cases e
  | _ => cases e
theorem seq_inv (rh : RH K J h H) (e : d.seq h = some ds) (r : RD K J H d v) : ∃ a vs, v = .ref a ∧ (SqL K H a vs ∨ SqT K H a vs) ∧ vs.length ≤ sizeLine ∧ RDs K J H ds vs := by
  cases d with
  | tup xs =>
    cases e
    obtain ⟨a, vs, e1, e2, e3, e4⟩ := r.tup_inv
    exact ⟨a, vs, e1, .inr e2, e3, e4⟩
  | lst xs =>
    cases r with
    | lst n m q z r => cases e; exact ⟨_, _, rfl, .inl (.inl (.inl q)), z, r⟩
  | fz xs =>
    cases r with
    | fz n m q z r => cases e; exact ⟨_, _, rfl, .inl (.inl (.inr ⟨_, q⟩)), z, r⟩
    | kfz k z r => cases e; exact ⟨_, _, rfl, .inl (.inr k), z, r⟩
  | ftup xs =>
    cases r with
    | ft n m q c d z r => cases e; exact ⟨_, _, rfl, .inr (.inl (.inr ⟨_, q⟩)), z, r⟩
  | ref i =>
    cases r with
    | ref q =>
      obtain ⟨o, u, h1, h2, h3⟩ := rh.at q
      simp only [D.seq, h1] at e
      cases h3 with
      | lst z r => cases e; exact ⟨_, _, rfl, .inl (.inl (.inl h2)), z, r⟩
      | dct z r => cases e
  | _ => cases e
/-- a list as it stands -/
theorem res_inv (rh : RH K J h H) (e : d.res h = .lst ds) (r : RD K J H d v) : ∃ a vs, v = .ref a ∧ SqL K H a vs ∧ vs.length ≤ sizeLine ∧ RDs K J H ds vs := by
  cases d with
  | lst xs =>
    cases r with
    | lst n m q z r => cases e; exact ⟨_, _, rfl, .inl (.inl q), z, r⟩
  | fz xs =>
    cases r with
    | fz n m q z r => cases e; exact ⟨_, _, rfl, .inl (.inr ⟨_, q⟩), z, r⟩
    | kfz k z r => cases e; exact ⟨_, _, rfl, .inr k, z, r⟩
  | ref i =>
    cases r with
    | ref q =>
      obtain ⟨o, u, h1, h2, h3⟩ := rh.at q
      simp only [D.res, h1] at e
      cases h3 with
      | lst z r => cases e; exact ⟨_, _, rfl, .inl (.inl h2), z, r⟩
      | dct z r => cases e
  | _ => cases e
theorem res_else {e : D} (h1 : d.res h = e) (h2 : ∀ xs, e ≠ .lst xs) : e = d := by
  cases d with
  | ref i =>
    simp only [D.res] at h1
    split at h1
    · exact absurd h1.symm (h2 _)
    · exact h1.symm
  | fz xs => exact absurd h1.symm (h2 _)
  | _ => exact h1.symm
theorem RD.newTup {p : Addr} (rh : RH K J h H) (n : H p = none) (r : RDs K J H ds vs) (z : vs.length ≤ sizeLine) : RD K J (upd H p (.tup vs)) (.tup ds) (.ref p) :=
  .tup (rh.notin n) (rh.notz n) upd_same z (r.ext (Ext.laid n))
theorem RD.newLst {p : Addr} (rh : RH K J h H) (n : H p = none) (r : RDs K J H ds vs) (z : vs.length ≤ sizeLine) : RD K J (upd H p (.lst vs)) (.lst ds) (.ref p) :=
  .lst (rh.notin n) (rh.notz n) upd_same z (r.ext (Ext.laid n))
end

/-! ### data as the library's data -/
mutual
theorem lay_py : ∀ d : D, d.lay = true → d.py.canLay0 = true
  | .non, _ => by simp only [D.py, PyData.canLay0]
  | .bl _, _ => by simp only [D.py, PyData.canLay0]
  | .int _, _ => by simp only [D.py, PyData.canLay0]
  | .str x, h => by simpa only [D.py, PyData.canLay0, D.lay] using h
  | .tup xs, h => by simp only [D.py, PyData.canLay0]; exact lays_pys xs (by simpa only [D.lay] using h)
  | .lst xs, h => by simp only [D.py, PyData.canLay0]; exact lays_pys xs (by simpa only [D.lay] using h)
  | .ref _, h => by simp [D.lay] at h
  | .fz _, h => by simp [D.lay] at h
  | .ftup _, h => by simp [D.lay] at h
  | .exc _, h => by simp [D.lay] at h
  | .exf _ _ _, h => by simp [D.lay] at h
theorem lays_pys : ∀ xs : List D, D.lays xs = true → PyData.canLayAll0 (D.pys xs) = true
  | [], _ => by simp only [D.pys, PyData.canLayAll0]
  | x :: xs, h => by
    simp only [D.lays, Bool.and_eq_true] at h
    simp only [D.pys, PyData.canLayAll0, lay_py x h.1, lays_pys xs h.2, Bool.and_self]
end
mutual
theorem dep_py : ∀ d : D, d.lay = true → d.py.depth = d.dep
  | .non, _ => by simp only [D.py, PyData.depth, D.dep]
  | .bl _, _ => by simp only [D.py, PyData.depth, D.dep]
  | .int _, _ => by simp only [D.py, PyData.depth, D.dep]
  | .str x, h => by simp only [D.py, PyData.depth, D.dep]
  | .tup xs, h => by simp only [D.py, PyData.depth, D.dep]; rw [deps_pys xs (by simpa only [D.lay] using h)]
  | .lst xs, h => by simp only [D.py, PyData.depth, D.dep]; rw [deps_pys xs (by simpa only [D.lay] using h)]
  | .ref _, h => by simp [D.lay] at h
  | .fz _, h => by simp [D.lay] at h
  | .ftup _, h => by simp [D.lay] at h
  | .exc _, h => by simp [D.lay] at h
  | .exf _ _ _, h => by simp [D.lay] at h
theorem deps_pys : ∀ xs : List D, D.lays xs = true → PyData.depthAll (D.pys xs) = D.deps xs
  | [], _ => by simp only [D.pys, PyData.depthAll, D.deps]
  | x :: xs, h => by
    simp only [D.lays, Bool.and_eq_true] at h
    simp only [D.pys, PyData.depthAll, D.deps, dep_py x h.1, deps_pys xs h.2]
end
theorem shp_py {d : D} (h : d.shp = true) : SeqAt.shaped d.py = true := by
  simp only [D.shp, Bool.and_eq_true, decide_eq_true_eq] at h
  show (PyData.canLay0 d.py && decide (d.py.depth ≤ 64)) = true
  rw [lay_py d h.1, dep_py d h.1, decide_eq_true h.2]; rfl
theorem shp_lay {d : D} (h : d.shp = true) : d.lay = true := by
  simp only [D.shp, Bool.and_eq_true] at h
  exact h.1
theorem cok_inv {a b : D} (h : D.cok a b = true) : a.lay = true ∧ b.lay = true ∧ min a.dep b.dep ≤ 64 := by
  unfold D.cok at h
  (simp only [Bool.or_eq_true, Bool.and_eq_true, decide_eq_true_eq] at h)
  rcases h with ⟨h1, h2⟩ | ⟨h1, h2, h3⟩
  · refine ⟨shp_lay h1, shp_lay h2, ?_⟩
    simp only [D.shp, Bool.and_eq_true, decide_eq_true_eq] at h1
    omega
  · exact ⟨h1, h2, h3⟩
theorem str_eqb (x y : Str) : (x == y) = decide (x = y) := by
  by_cases e : x = y
  · subst e; simp
  · rw [decide_eq_false e]; exact beq_eq_false_iff_ne.mpr e
mutual
theorem eqv_py : ∀ d e : D, d.lay = true → e.lay = true → PyData.eqv d.py e.py = D.eqv d e
  | .non, e, _, he => by cases e <;> first | (simp only [D.py, PyData.eqv, D.eqv]; done) | (simp [D.lay] at he; done)
  | .bl _, e, _, he => by cases e <;> first | (simp only [D.py, PyData.eqv, D.eqv]; done) | (simp [D.lay] at he; done)
  | .int _, e, _, he => by cases e <;> first | (simp only [D.py, PyData.eqv, D.eqv]; done) | (simp [D.lay] at he; done)
  | .str x, e, _, he => by cases e <;> first | (simp only [D.py, PyData.eqv, D.eqv, str_eqb]; done) | (simp [D.lay] at he; done)
  | .tup xs, e, hd, he => by
    cases e with
    | tup ys => simp only [D.py, PyData.eqv, D.eqv]; exact eqvs_pys xs ys (by simpa only [D.lay] using hd) (by simpa only [D.lay] using he)
    | ref _ => simp [D.lay] at he
    | fz _ => simp [D.lay] at he
    | ftup _ => simp [D.lay] at he
    | exc _ => simp [D.lay] at he
    | exf _ _ _ => simp [D.lay] at he
    | _ => simp only [D.py, PyData.eqv, D.eqv]
  | .lst xs, e, hd, he => by
    cases e with
    | lst ys => simp only [D.py, PyData.eqv, D.eqv]; exact eqvs_pys xs ys (by simpa only [D.lay] using hd) (by simpa only [D.lay] using he)
    | ref _ => simp [D.lay] at he
    | fz _ => simp [D.lay] at he
    | ftup _ => simp [D.lay] at he
    | exc _ => simp [D.lay] at he
    | exf _ _ _ => simp [D.lay] at he
    | _ => simp only [D.py, PyData.eqv, D.eqv]
  | .ref _, _, h, _ => by simp [D.lay] at h
  | .fz _, _, h, _ => by simp [D.lay] at h
  | .ftup _, _, h, _ => by simp [D.lay] at h
  | .exc _, _, h, _ => by simp [D.lay] at h
  | .exf _ _ _, _, h, _ => by simp [D.lay] at h
theorem eqvs_pys : ∀ xs ys : List D, D.lays xs = true → D.lays ys = true → PyData.eqvAll (D.pys xs) (D.pys ys) = D.eqvs xs ys
  | [], [], _, _ => by simp only [D.pys, PyData.eqvAll, D.eqvs]
  | [], y :: ys, _, _ => by simp only [D.pys, PyData.eqvAll, D.eqvs]
  | x :: xs, [], _, _ => by simp only [D.pys, PyData.eqvAll, D.eqvs]
  | x :: xs, (y :: ys), h, h' => by
    simp only [D.lays, Bool.and_eq_true] at h h'
    simp only [D.pys, PyData.eqvAll, D.eqvs, eqv_py x y h.1 h'.1, eqvs_pys xs ys h.2 h'.2]
end
section
variable {K : PySem.W.Frag} {J : Jn} {H : Hp} {h : Hh}
mutual
theorem RD.dp : ∀ (d : D) (v : V), d.lay = true → RD K J H d v → Dp K H v d.py
  | .non, _, _, r => by cases r; simp only [D.py]; exact .non
  | .bl b, _, _, r => by cases r; simp only [D.py]; exact .bl b
  | .int i, _, _, r => by cases r; simp only [D.py]; exact .int i
  | .str x, _, _, r => by cases r; simp only [D.py]; exact .str x
  | .tup xs, _, l, r => by
    obtain ⟨a, vs, rfl, hq, z, rs⟩ := r.tup_inv
    simp only [D.py]; exact .tup hq (RDs.dp xs vs (by simpa only [D.lay] using l) rs)
  | .lst xs, _, l, r => by
    cases r with
    | lst n m q z rs => simp only [D.py]; exact .lst (.inl (.inl q)) (RDs.dp xs _ (by simpa only [D.lay] using l) rs)
  | .ref _, _, l, _ => by simp [D.lay] at l
  | .fz _, _, l, _ => by simp [D.lay] at l
  | .ftup _, _, l, _ => by simp [D.lay] at l
  | .exc _, _, l, _ => by simp [D.lay] at l
  | .exf _ _ _, _, l, _ => by simp [D.lay] at l
theorem RDs.dp : ∀ (ds : List D) (vs : List V), D.lays ds = true → RDs K J H ds vs → DpAll K H vs (D.pys ds)
  | [], _, _, r => by cases r; simp only [D.pys]; exact .nil
  | d :: ds, _, l, r => by
    simp only [D.lays, Bool.and_eq_true] at l
    cases r with | cons a b => simp only [D.pys]; exact .cons (RD.dp d _ l.1 a) (RDs.dp ds _ l.2 b)
end
theorem res_dp {d : D} {v : V} (rh : RH K J h H) (l : (d.res h).lay = true) (r : RD K J H d v) : Dp K H v (d.res h).py := by
  cases e : d.res h with
  | lst xs =>
    obtain ⟨a, vs, rfl, hq, z, rs⟩ := res_inv rh e r
    rw [e] at l
    simp only [D.py]; exact .lst hq (RDs.dp xs vs (by simpa only [D.lay] using l) rs)
  | _ =>
    have e2 := res_else e (fun xs z => by cases z)
    rw [e] at l
    subst e2
    exact RD.dp _ v l r
end

/-! ### operators -/
def rOp (K : PySem.W.Frag) (f : Hh → D → D → Option D) : R2 := fun x y H Q => ∃ J h dx dy d, RH K J h H ∧ RD K J H dx x ∧ RD K J H dy y ∧ f h dx dy = some d ∧ ∀ J' H' v, Ext J H J' H' → RH K J' h H' → RD K J' H' d v → Q v H'
def rCmp (K : PySem.W.Frag) (f : Hh → D → D → Option Bool) : R2 := fun x y H Q => ∃ J h dx dy b, RH K J h H ∧ RD K J H dx x ∧ RD K J H dy y ∧ f h dx dy = some b ∧ Q (.bl b) H
section
variable {X : Cx}
theorem ops_add : OpR X (binaryOp .Add) (rOp X.K (opBin .add)) := by
  intro pins s σ H x y v u Q I rx ry ⟨J, h, dx, dy, d, rh, r1, r2, e, q⟩
  simp only [opBin] at e
  split at e
  · cases r1; cases r2; cases e
    exact op_add pins s σ H _ _ v u Q I rx ry ⟨_, _, rfl, rfl, q _ _ _ Ext.refl rh (.int _)⟩
  · cases r1; cases r2
    split at e
    · rename_i hz; cases e
      exact op_add_str pins s σ H _ _ v u Q I rx ry ⟨_, _, rfl, rfl, size_of hz, q _ _ _ Ext.refl rh (.str _)⟩
    · cases e
  · split at e
    · rename_i xs ys hz; cases e
      obtain ⟨a, vs, rfl, ha, za, ra⟩ := r1.tup_inv
      obtain ⟨b, ws, rfl, hb, zb, rb⟩ := r2.tup_inv
      have hlen : vs.length + ws.length ≤ sizeLine := by rw [← ra.length, ← rb.length]; exact size_of hz
      refine op_catA pins s σ H _ _ v u Q I rx ry ⟨a, b, vs, ws, rfl, rfl, ha, hb, hlen, fun e => ?_, fun _ e => ?_, fun _ _ p np => ?_⟩
      · subst e; cases ra; exact q _ _ _ Ext.refl rh (by simpa using r2)
      · subst e; cases rb; exact q _ _ _ Ext.refl rh (by simpa using r1)
      · exact q _ _ _ (Ext.laid np) (rh.laid np) (RD.newTup rh np (ra.append rb) (by rw [List.length_append]; exact hlen))
    · cases e
  · split at e
    · rename_i e1 e2
      split at e
      · rename_i hz; cases e
        obtain ⟨a, vs, rfl, ha, za, ra⟩ := own_inv rh e1 r1
        obtain ⟨b, ws, rfl, hb, zb, rb⟩ := own_inv rh e2 r2
        have hlen : vs.length + ws.length ≤ sizeLine := by rw [← ra.length, ← rb.length]; exact size_of hz
        exact op_cat pins s σ H _ _ v u Q I rx ry ⟨a, b, vs, ws, rfl, rfl, ha, hb, hlen, fun p np =>
          q _ _ _ (Ext.laid np) (rh.laid np) (RD.newLst rh np (ra.append rb) (by rw [List.length_append]; exact hlen))⟩
      · cases e
    · cases e
theorem ops_sub : OpR X (binaryOp .Sub) (rOp X.K (opBin .sub)) := by
  intro pins s σ H x y v u Q I rx ry ⟨J, h, dx, dy, d, rh, r1, r2, e, q⟩
  simp only [opBin] at e
  split at e
  · cases r1; cases r2; cases e
    exact op_sub pins s σ H _ _ v u Q I rx ry ⟨_, _, rfl, rfl, q _ _ _ Ext.refl rh (.int _)⟩
  · cases e
theorem ops_mul : OpR X (binaryOp .Mult) (rOp X.K (opBin .mul)) := by
  intro pins s σ H x y v u Q I rx ry ⟨J, h, dx, dy, d, rh, r1, r2, e, q⟩
  simp only [opBin] at e
  split at e
  · cases r1; cases r2
    split at e
    · rename_i hz; cases e
      simp only [mulOk, Bool.or_eq_true] at hz
      rcases hz with (hz | hz) | hz
      · exact op_mulW pins s σ H _ _ v u Q I rx ry ⟨_, _, rfl, rfl, (show CMulW _ _ from of_decide_eq_true (p := _ < 1000000) hz), q _ _ _ Ext.refl rh (.int _)⟩
      · exact op_mul pins s σ H _ _ v u Q I rx ry ⟨_, _, rfl, rfl, .inl (of_decide_eq_true hz), q _ _ _ Ext.refl rh (.int _)⟩
      · exact op_mul pins s σ H _ _ v u Q I rx ry ⟨_, _, rfl, rfl, .inr (of_decide_eq_true hz), q _ _ _ Ext.refl rh (.int _)⟩
    · cases e
  · rename_i xs0 j
    split at e
    · rename_i hz; cases e
      obtain ⟨z1, z2, z3, z4⟩ := hz
      cases r2
      obtain ⟨p, ws, rfl, hq, z, rr⟩ := r1.tup_inv
      have hl := rr.length
      refine PVX.op_times pins s σ H _ _ v u Q I rx ry ⟨p, _, ws, rfl, rfl, hq, fun w => z1 (List.eq_nil_of_length_eq_zero (by rw [hl, w]; rfl)), z2, z3, by rw [← hl]; exact z4, fun p np =>
          q _ _ _ (Ext.laid np) (rh.laid np) (RD.newTup rh np (rr.replicate _) ?_)⟩
      have e1 : (List.replicate j.toNat ws).flatten.length = j.toNat * ws.length := by rw [List.length_flatten]; simp
      rw [e1, ← hl, sizeLine_eq]; omega
    · cases e
  · split at e
    · rename_i e1
      split at e
      · rename_i hz
        cases e
        obtain ⟨a, vs, rfl, ha, za, ra⟩ := own_inv rh e1 r1
        cases r2
        obtain ⟨h0, h1, h2⟩ := hz
        have hlen := size_of h2
        rw [ra.length] at hlen
        refine op_rep pins s σ H _ _ v u Q I rx ry ⟨a, _, vs, rfl, rfl, ha, by omega, by omega, hlen, fun p np =>
          q _ _ _ (Ext.laid np) (rh.laid np) (RD.newLst rh np (ra.replicate _) ?_)⟩
        rw [List.length_flatten]; simp; rw [Nat.mul_comm]; exact hlen
      · cases e
    · cases e
  · cases e
theorem ops_fdiv : OpR X (binaryOp .FloorDiv) (rOp X.K (opBin .fdiv)) := by
  intro pins s σ H x y v u Q I rx ry ⟨J, h, dx, dy, d, rh, r1, r2, e, q⟩
  simp only [opBin] at e
  split at e
  · cases r1; cases r2
    split at e
    · rename_i hz; cases e
      exact op_fdivW pins s σ H _ _ v u Q I rx ry ⟨_, _, rfl, rfl, hz, q _ _ _ Ext.refl rh (.int _)⟩
    · cases e
  · cases e
theorem ops_mod : OpR X (binaryOp .Mod) (rOp X.K (opBin .mod)) := by
  intro pins s σ H x y v u Q I rx ry ⟨J, h, dx, dy, d, rh, r1, r2, e, q⟩
  simp only [opBin] at e
  split at e
  · cases r1; cases r2
    split at e
    · rename_i hz; cases e
      exact op_mod pins s σ H _ _ v u Q I rx ry ⟨_, _, rfl, rfl, hz, q _ _ _ Ext.refl rh (.int _)⟩
    · cases e
  · cases e
theorem ops_pow : OpR X (binaryOp .Pow) (rOp X.K (opBin .pow)) := by
  intro pins s σ H x y v u Q I rx ry ⟨J, h, dx, dy, d, rh, r1, r2, e, q⟩
  simp only [opBin] at e
  split at e
  · cases r1; cases r2
    split at e
    · rename_i hz; cases e
      simp only [powOk, Bool.and_eq_true, decide_eq_true_eq] at hz
      exact op_pow pins s σ H _ _ v u Q I rx ry ⟨_, _, rfl, rfl, ⟨hz.1.1, hz.1.2, hz.2⟩, q _ _ _ Ext.refl rh (.int _)⟩
    · cases e
  · cases e

/-! ### comparisons -/
theorem dec_strD {a b : Str} : decide (V.str a = V.str b) = decide (a = b) := decide_eq_decide.mpr ⟨V.str.inj, fun z => by rw [z]⟩
theorem ops_eq (hu : X.A.units + 64 < cLine) : OpR X (compareOp .Eq) (rCmp X.K (opCmp .eq)) := by
  intro pins s σ H x y v u Q I rx ry ⟨J, h, dx, dy, d, rh, r1, r2, e, q⟩
  simp only [opCmp] at e
  unfold opEq at e
  split at e
  · cases r1; cases r2; cases e
    exact op_eq pins s σ H _ _ v u Q I rx ry ⟨rfl, by rw [dec_strD]; exact q⟩
  · split at e
    · rename_i hz; cases e
      obtain ⟨l1, l2, lm⟩ := cok_inv hz
      obtain ⟨as, q1⟩ := Dp.reads I _ x v (res_dp rh l1 r1) rx
      obtain ⟨bs, q2⟩ := Dp.reads I _ y u (res_dp rh l2 r2) ry
      exact SeqAt.compareEq_reads q1 q2 (lay_py _ l1) (lay_py _ l2) (by rw [dep_py _ l1, dep_py _ l2]; omega) ⟨.bl _, H, I, rfl, by rw [eqv_py _ _ l1 l2]; exact q⟩
    · cases e
theorem ops_ne (hu : X.A.units + 64 < cLine) : OpR X (compareOp .NotEq) (rCmp X.K (opCmp .ne)) := by
  intro pins s σ H x y v u Q I rx ry ⟨J, h, dx, dy, d, rh, r1, r2, e, q⟩
  simp only [opCmp, Option.map_eq_some_iff] at e
  obtain ⟨d, e, rfl⟩ := e
  unfold opEq at e
  split at e
  · cases r1; cases r2; cases e
    exact op_ne pins s σ H _ _ v u Q I rx ry ⟨rfl, by rw [dec_strD]; exact q⟩
  · split at e
    · rename_i hz; cases e
      obtain ⟨l1, l2, lm⟩ := cok_inv hz
      obtain ⟨as, q1⟩ := Dp.reads I _ x v (res_dp rh l1 r1) rx
      obtain ⟨bs, q2⟩ := Dp.reads I _ y u (res_dp rh l2 r2) ry
      exact SeqAt.compareNe_reads q1 q2 (lay_py _ l1) (lay_py _ l2) (by rw [dep_py _ l1, dep_py _ l2]; omega) ⟨.bl _, H, I, rfl, by rw [eqv_py _ _ l1 l2]; exact q⟩
    · cases e
theorem ops_lt : OpR X (compareOp .Lt) (rCmp X.K (opCmp .lt)) := by
  intro pins s σ H x y v u Q I rx ry ⟨J, h, dx, dy, d, rh, r1, r2, e, q⟩
  simp only [opCmp] at e
  split at e
  · cases r1; cases r2; cases e
    exact op_lt pins s σ H _ _ v u Q I rx ry ⟨_, _, rfl, rfl, q⟩
  · cases e
theorem ops_le : OpR X (compareOp .LtE) (rCmp X.K (opCmp .le)) := by
  intro pins s σ H x y v u Q I rx ry ⟨J, h, dx, dy, d, rh, r1, r2, e, q⟩
  simp only [opCmp] at e
  split at e
  · cases r1; cases r2; cases e
    exact op_le pins s σ H _ _ v u Q I rx ry ⟨_, _, rfl, rfl, q⟩
  · cases e
theorem ops_gt : OpR X (compareOp .Gt) (rCmp X.K (opCmp .gt)) := by
  intro pins s σ H x y v u Q I rx ry ⟨J, h, dx, dy, d, rh, r1, r2, e, q⟩
  simp only [opCmp] at e
  split at e
  · cases r1; cases r2; cases e
    exact op_gt pins s σ H _ _ v u Q I rx ry ⟨_, _, rfl, rfl, q⟩
  · cases e
theorem ops_ge : OpR X (compareOp .GtE) (rCmp X.K (opCmp .ge)) := by
  intro pins s σ H x y v u Q I rx ry ⟨J, h, dx, dy, d, rh, r1, r2, e, q⟩
  simp only [opCmp] at e
  split at e
  · cases r1; cases r2; cases e
    exact op_ge pins s σ H _ _ v u Q I rx ry ⟨_, _, rfl, rfl, q⟩
  · cases e
theorem is_blD {K : PySem.W.Frag} {J : Jn} {H : Hp} {d : D} {x : V} {v : Value} {b : Bool} {M : Model} {A : Around} {E : Value → Shared → Prop} {s : Shared} {Q : Value → Shared → Prop} (r : RD K J H d x) (rx : L2.RelV x v) (h : Q (.bool (d.eqBl b)) s) :
    wpAny M A (compareOp .Is v (.bool b)) Q E s := by
  cases r with
  | non => cases (show v = Value.none from rx); exact wpAny_pure h
  | bl a => cases (show v = Value.bool a from rx); exact is_bool h
  | int i => obtain ⟨t, rfl⟩ := (show ∃ t, v = Value.int i t from rx); exact wpAny_pure h
  | str i => obtain ⟨t, rfl⟩ := (show ∃ t, v = Value.str i t from rx); exact wpAny_pure h
  | tup n m q z r => cases (show v = Value.ref _ from rx); exact wpAny_pure h
  | ktup k z r => cases (show v = Value.ref _ from rx); exact wpAny_pure h
  | lst n m q z r => cases (show v = Value.ref _ from rx); exact wpAny_pure h
  | ref q => cases (show v = Value.ref _ from rx); exact wpAny_pure h
  | fz n m q z r => cases (show v = Value.ref _ from rx); exact wpAny_pure h
  | kfz k z r => cases (show v = Value.ref _ from rx); exact wpAny_pure h
  | ft n m q c d z r => cases (show v = Value.ref _ from rx); exact wpAny_pure h
  | exc n m q => cases (show v = Value.ref _ from rx); exact wpAny_pure h
  | exf n m q n2 m2 q2 r => cases (show v = Value.ref _ from rx); exact wpAny_pure h
theorem isn_blD {K : PySem.W.Frag} {J : Jn} {H : Hp} {d : D} {x : V} {v : Value} {b : Bool} {M : Model} {A : Around} {E : Value → Shared → Prop} {s : Shared} {Q : Value → Shared → Prop} (r : RD K J H d x) (rx : L2.RelV x v) (h : Q (.bool (!d.eqBl b)) s) :
    wpAny M A (compareOp .IsNot v (.bool b)) Q E s := by
  cases r with
  | non => cases (show v = Value.none from rx); exact wpAny_pure h
  | bl a => cases (show v = Value.bool a from rx); cases a <;> cases b <;> exact wpAny_pure h
  | int i => obtain ⟨t, rfl⟩ := (show ∃ t, v = Value.int i t from rx); exact wpAny_pure h
  | str i => obtain ⟨t, rfl⟩ := (show ∃ t, v = Value.str i t from rx); exact wpAny_pure h
  | tup n m q z r => cases (show v = Value.ref _ from rx); exact wpAny_pure h
  | ktup k z r => cases (show v = Value.ref _ from rx); exact wpAny_pure h
  | lst n m q z r => cases (show v = Value.ref _ from rx); exact wpAny_pure h
  | ref q => cases (show v = Value.ref _ from rx); exact wpAny_pure h
  | fz n m q z r => cases (show v = Value.ref _ from rx); exact wpAny_pure h
  | kfz k z r => cases (show v = Value.ref _ from rx); exact wpAny_pure h
  | ft n m q c d z r => cases (show v = Value.ref _ from rx); exact wpAny_pure h
  | exc n m q => cases (show v = Value.ref _ from rx); exact wpAny_pure h
  | exf n m q n2 m2 q2 r => cases (show v = Value.ref _ from rx); exact wpAny_pure h
theorem is_nonD {K : PySem.W.Frag} {J : Jn} {H : Hp} {d : D} {x : V} (r : RD K J H d x) : decide (x = .non) = d.isNon := by
  cases r <;> first | rfl | (exact decide_eq_false (fun z => by cases z))
theorem ops_is : OpR X (compareOp .Is) (rCmp X.K (opCmp .is)) := by
  intro pins s σ H x y v u Q I rx ry ⟨J, h, dx, dy, d, rh, r1, r2, e, q⟩
  simp only [opCmp] at e
  split at e
  · cases r2; cases e
    exact op_isN pins s σ H _ _ v u Q I rx ry ⟨rfl, by rw [is_nonD r1]; exact q⟩
  · cases r2; cases e
    cases (show u = Value.bool _ from ry)
    exact is_blD r1 rx ⟨.bl _, H, I, rfl, q⟩
  · cases e
theorem ops_isn : OpR X (compareOp .IsNot) (rCmp X.K (opCmp .isn)) := by
  intro pins s σ H x y v u Q I rx ry ⟨J, h, dx, dy, d, rh, r1, r2, e, q⟩
  simp only [opCmp] at e
  split at e
  · cases r2; cases e
    exact op_notN pins s σ H _ _ v u Q I rx ry ⟨rfl, by rw [is_nonD r1]; exact q⟩
  · cases r2; cases e
    cases (show u = Value.bool _ from ry)
    exact isn_blD r1 rx ⟨.bl _, H, I, rfl, q⟩
  · cases e
end
end PV
end

section
set_option maxRecDepth 100000
namespace PV
open L2 PySem PySem.Spec PyProof.Rows

section
variable {K : PySem.W.Frag} {J J' : Jn} {H H' : Hp} {h h' : Hh} {d : D} {v : V} {ds : List D} {vs : List V}
/-! ### dicts -/
theorem valD_rel {kvs : List (Key × D)} {kws : List (Key × V)} (r : Paired (fun p q => p.1 = q.1 ∧ RD K J H p.2 q.2) kvs kws) (k : Key) :
    (valD kvs k = none ∧ valV kws k = none) ∨ ∃ d v, valD kvs k = some d ∧ valV kws k = some v ∧ RD K J H d v := by
  induction r with
  | nil => exact (.inl ⟨rfl, rfl⟩)
  | @cons p q ps qs x t ih =>
    by_cases e : p.1 = k
    · refine .inr ⟨p.2, q.2, ?_, ?_, x.2⟩
      · simp [valD, List.find?_cons, e]
      · exact valV_pos (x.1 ▸ e)
    · have e2 : ¬ q.1 = k := by rw [← x.1]; exact e
      rw [valV_neg e2, show valD (p :: ps) k = valD ps k by simp [valD, List.find?_cons, e]]
      exact ih
theorem key_inv {k : Key} (e : d.key = some k) (r : RD K J H d v) : v = kV k := by
  cases d with
  | int i => cases e; cases r; rfl
  | str x => cases e; cases r; rfl
  | _ => cases e
theorem any_py {x : D} : ∀ {ys : List D}, D.lays ys = true → x.lay = true → ((D.pys ys).any fun z => PyData.eqv z x.py) = ys.any fun y => y.eqv x
  | [], _, _ => rfl
  | y :: ys, h, hx => by
    simp only [D.lays, Bool.and_eq_true] at h
    simp only [D.pys, List.any_cons, eqv_py y x h.1 hx, any_py h.2 hx]
end
section
variable {X : Cx}
theorem ops_inCore (hu : X.A.units + 65 < cLine) {pins : List (Addr × Obj)} {s : Shared} {σ : L2.St} {H : Hp} {x y : V} {v u : Value} {b : Bool} {J : Jn} {h : Hh} {dx dy : D} (I : Inv X pins σ H s) (rx : L2.RelV x v) (ry : L2.RelV y u)
    (rh : RH X.K J h H) (r1 : RD X.K J H dx x) (r2 : RD X.K J H dy y) (e : opIn h dx dy = some b) :
    (∀ Q : VK, Q (.bl b) H → wpAny (model X.prog X.w) X.A (compareOp .In v u) (EP X pins σ Q) X.xe s) ∧
    (∀ Q : VK, Q (.bl (!b)) H → wpAny (model X.prog X.w) X.A (compareOp .NotIn v u) (EP X pins σ Q) X.xe s) := by
  have lists : ∀ (p : Addr) (ws : List V) (ys : List D), y = .ref p → SqL X.K H p ws → RDs X.K J H ys ws → (if dx.shp && (D.lst ys).shp then some (ys.any fun z => z.eqv dx) else none) = some b →
      (∀ Q : VK, Q (.bl b) H → wpAny (model X.prog X.w) X.A (compareOp .In v u) (EP X pins σ Q) X.xe s) ∧
      (∀ Q : VK, Q (.bl (!b)) H → wpAny (model X.prog X.w) X.A (compareOp .NotIn v u) (EP X pins σ Q) X.xe s) := by
    intro p ws ys ey hq rr e
    split at e
    · rename_i hz; cases e
      rw [Bool.and_eq_true] at hz
      have l1 := shp_lay hz.1
      have l2 : D.lays ys = true := by have := shp_lay hz.2; simpa only [D.lay] using this
      have sp : SeqAt.shaped (.list (D.pys ys)) = true := by have := shp_py hz.2; simpa only [D.py] using this
      have dl : Dp X.K H y (.list (D.pys ys)) := by rw [ey]; exact .lst hq (RDs.dp ys ws l2 rr)
      constructor
      · intro Q q
        exact op_inD hu pins s σ H x y v u Q I rx ry ⟨dx.py, D.pys ys, RD.dp dx x l1 r1, dl, shp_py hz.1, sp, by rw [any_py l2 l1]; exact q⟩
      · intro Q q
        exact op_notInD hu pins s σ H x y v u Q I rx ry ⟨dx.py, D.pys ys, RD.dp dx x l1 r1, dl, shp_py hz.1, sp, by rw [any_py l2 l1]; exact q⟩
    · cases e
  unfold opIn at e
  split at e
  · split at e
    · rename_i i ys hys
      cases r2 with
      | ref q =>
        obtain ⟨o, w, h1, h2, h3⟩ := rh.at q
        rw [hys] at h1; cases h1
        cases h3 with
        | lst z r => exact lists _ _ _ rfl (.inl (.inl h2)) r e
    · rename_i i kvs hys
      cases r2 with
      | ref q =>
        obtain ⟨o, w, h1, h2, h3⟩ := rh.at q
        rw [hys] at h1; cases h1
        cases h3 with
        | @dct _ kws z r =>
          split at e
          · rename_i k hk; cases e
            obtain rfl := key_inv hk r1
            cases (show u = Value.ref _ from ry)
            have g := DGet.k (k := k) h2
            have eb : (valV kws k).isSome = hasKey k kvs := by
              unfold hasKey
              rcases valD_rel r k with ⟨a, b⟩ | ⟨d, v, a, b, _⟩ <;> rw [a, b] <;> rfl
            rw [← eb]
            exact ⟨fun Q q => d_in (by omega) I g rx fun s' I' => ⟨.bl _, H, I', rfl, q⟩, fun Q q => d_notIn (by omega) I g rx fun s' I' => ⟨.bl _, H, I', rfl, q⟩⟩
          · cases e
    · cases e
  · cases r2 with
    | lst n m q z r => exact lists _ _ _ rfl (.inl (.inl q)) r e
  · obtain ⟨p, ws, ey, hq, z, rr⟩ := r2.tup_inv
    split at e
    · rename_i ys hz; cases e
      rw [Bool.and_eq_true] at hz
      have l1 := shp_lay hz.1
      have l2 : D.lays ys = true := by have := shp_lay hz.2; simpa only [D.lay] using this
      have sp : SeqAt.shaped (.tuple (D.pys ys)) = true := by have := shp_py hz.2; simpa only [D.py] using this
      have dl : Dp X.K H y (.tuple (D.pys ys)) := by rw [ey]; exact .tup hq (RDs.dp ys ws l2 rr)
      obtain ⟨as, q1⟩ := Dp.reads I dx.py x v (RD.dp dx x l1 r1) rx
      obtain ⟨bs, q2⟩ := Dp.reads I (.tuple (D.pys ys)) y u dl ry
      have ll : PyData.canLayAll0 (D.pys ys) = true := lays_pys ys l2
      constructor
      · intro Q q
        exact SeqAt.in_tuple_reads q2 q1 ll (lay_py dx l1) (room_in_shaped (shp_py hz.1) hu) ⟨.bl _, H, I, rfl, by rw [any_py l2 l1]; exact q⟩
      · intro Q q
        exact SeqAt.notIn_tuple_reads q2 q1 ll (lay_py dx l1) (room_in_shaped (shp_py hz.1) hu) ⟨.bl _, H, I, rfl, by rw [any_py l2 l1]; exact q⟩
    · cases e
  · obtain ⟨p, ws, ey, hq, z, rr⟩ := r2.ft_inv
    split at e
    · rename_i ys hz; cases e
      rw [Bool.and_eq_true] at hz
      have l1 := shp_lay hz.1
      have l2 : D.lays ys = true := by have := shp_lay hz.2; simpa only [D.lay] using this
      have sp : SeqAt.shaped (.tuple (D.pys ys)) = true := by have := shp_py hz.2; simpa only [D.py] using this
      have dl : Dp X.K H y (.tuple (D.pys ys)) := by rw [ey]; exact .tup hq (RDs.dp ys ws l2 rr)
      obtain ⟨as, q1⟩ := Dp.reads I dx.py x v (RD.dp dx x l1 r1) rx
      obtain ⟨bs, q2⟩ := Dp.reads I (.tuple (D.pys ys)) y u dl ry
      have ll : PyData.canLayAll0 (D.pys ys) = true := lays_pys ys l2
      constructor
      · intro Q q
        exact SeqAt.in_tuple_reads q2 q1 ll (lay_py dx l1) (room_in_shaped (shp_py hz.1) hu) ⟨.bl _, H, I, rfl, by rw [any_py l2 l1]; exact q⟩
      · intro Q q
        exact SeqAt.notIn_tuple_reads q2 q1 ll (lay_py dx l1) (room_in_shaped (shp_py hz.1) hu) ⟨.bl _, H, I, rfl, by rw [any_py l2 l1]; exact q⟩
    · cases e
  · cases e
theorem ops_in (hu : X.A.units + 65 < cLine) : OpR X (compareOp .In) (rCmp X.K (opCmp .inn)) := by
  intro pins s σ H x y v u Q I rx ry ⟨J, h, dx, dy, d, rh, r1, r2, e, q⟩
  exact (ops_inCore hu I rx ry rh r1 r2 e).1 Q q
theorem ops_nin (hu : X.A.units + 65 < cLine) : OpR X (compareOp .NotIn) (rCmp X.K (opCmp .nin)) := by
  intro pins s σ H x y v u Q I rx ry ⟨J, h, dx, dy, d, rh, r1, r2, e, q⟩
  simp only [opCmp, Option.map_eq_some_iff] at e
  obtain ⟨d, e, rfl⟩ := e
  exact (ops_inCore hu I rx ry rh r1 r2 e).2 Q q

/-! ### subscripts, slices -/
theorem atI_rel {K : PySem.W.Frag} {J : Jn} {H : Hp} {ds : List D} {vs : List V} {i : Int} {d : D} (r : RDs K J H ds vs) (e : atI ds i = some d) : ∃ v, atI vs i = some v ∧ RD K J H d v := by
  unfold atI at e ⊢
  rw [r.length] at e
  cases q : ixN vs.length i with
  | none => (rw [q] at e; cases e)
  | some j => rw [q] at e; exact r.get e
theorem ix_all (hu : X.A.units + 1 < cLine) : IxR X (rOp X.K opIdx) := by
  intro value slice pins s σ H x y v u Q I rx ry ⟨J, h, dx, dy, d, rh, r1, r2, e, q⟩ hs
  have lists : ∀ (p : Addr) (ws : List V) (ys : List D) (i : Int), x = .ref p → y = .int i → SqL X.K H p ws → RDs X.K J H ys ws → atI ys i = some d →
      wpAny (model X.prog X.w) X.A (subscriptTail value slice v u) (EP X pins σ Q) X.xe s := by
    intro p ws ys i ex ey hq rr e
    obtain ⟨w, hw, rw'⟩ := atI_rel rr e
    exact ix_list value slice pins s σ H x y v u Q I rx ry ⟨p, ws, i, w, ex, ey, hq, hw, q _ _ _ Ext.refl rh rw'⟩ hs
  unfold opIdx at e
  split at e
  · cases r2
    obtain ⟨p, ws, ex, hq, z, rr⟩ := r1.tup_inv
    obtain ⟨w, hw, rw'⟩ := atI_rel rr e
    exact ix_tup value slice pins s σ H x _ v u Q I rx ry ⟨p, ws, _, w, ex, rfl, hq, hw, q _ _ _ Ext.refl rh rw'⟩ hs
  · cases r2
    cases r1 with
    | lst n m q1 z r => exact lists _ _ _ _ rfl rfl (.inl (.inl q1)) r e
  · cases r2
    cases r1 with
    | fz n m q1 z r => exact lists _ _ _ _ rfl rfl (.inl (.inr ⟨_, q1⟩)) r e
    | kfz k z r => exact lists _ _ _ _ rfl rfl (.inr k) r e
  · split at e
    · rename_i xs i hxs
      cases r2
      cases r1 with
      | ref q1 =>
        obtain ⟨o, w, h1, h2, h3⟩ := rh.at q1
        rw [hxs] at h1; cases h1
        cases h3 with
        | lst z r => exact lists _ _ _ _ rfl rfl (.inl (.inl h2)) r e
    · rename_i kvs yy hxs
      cases r1 with
      | ref q1 =>
        obtain ⟨o, w, h1, h2, h3⟩ := rh.at q1
        rw [hxs] at h1; cases h1
        cases h3 with
        | @dct _ kws z r =>
          split at e
          · rename_i k hk
            obtain rfl := key_inv hk r2
            rcases valD_rel r k with ⟨a, b⟩ | ⟨d', v', a, b, c⟩
            · rw [a] at e; cases e
            · rw [a] at e; cases e
              cases (show v = Value.ref _ from rx)
              have g := DGet.k (k := k) h2
              rw [b] at g
              exact tail_any (dict_typeIs I g) PySem.F.slot_dict_getitem.lookup (d_getItem hu I g ry fun w' s3 I3 rw' => ⟨v', H, I3, rw', q _ _ _ Ext.refl rh c⟩) hs
          · cases e
    · cases e
  · cases e
def rSl (K : PySem.W.Frag) : V → Option Int → Option Int → Hp → VK → Prop := fun x lo hi H Q => ∃ J h dx d, RH K J h H ∧ RD K J H dx x ∧ opSlc h dx lo hi = some d ∧ ∀ J' H' v, Ext J H J' H' → RH K J' h H' → RD K J' H' d v → Q v H'
theorem cutD_rel {K : PySem.W.Frag} {J : Jn} {H : Hp} {ds : List D} {vs : List V} {lo hi : Option Int} (r : RDs K J H ds vs) : RDs K J H (cutD ds lo hi) (cutV vs lo hi) := by
  unfold cutD cutV
  rw [r.length]
  exact (r.drop _).take _
theorem cutD_whole {ds : List D} {lo hi : Option Int} (e : HT.sIx ds.length 0 lo = 0 ∧ HT.sIx ds.length ds.length hi = ds.length) : cutD ds lo hi = ds := by
  unfold cutD
  rw [e.1, e.2]; simp
theorem sl_all : SlR X (rSl X.K) := by
  intro pins s σ H x v vl vu lo hi sl Q I rx hs pl pu ⟨J, h, dx, d, rh, r1, e, q⟩
  unfold opSlc at e
  split at e
  · cases e
    obtain ⟨p, ws, ex, hq, z, rr⟩ := r1.tup_inv
    refine sl_tupA pins s σ H x v vl vu lo hi sl Q I rx hs pl pu ⟨p, ws, ex, hq, fun hw => ?_, fun _ p' np => ?_⟩
    · refine q _ _ _ Ext.refl rh ?_
      rw [cutD_whole (by rw [rr.length]; exact hw), ← ex]; exact r1
    · exact q _ _ _ (Ext.laid np) (rh.laid np) (RD.newTup rh np (cutD_rel rr) (Nat.le_trans (cutV_length _ _ _) z))
  · split at e
    · rename_i xs e2
      cases e
      obtain ⟨p, ws, ex, hq, z, rr⟩ := res_inv rh e2 r1
      exact sl_list pins s σ H x v vl vu lo hi sl Q I rx hs pl pu ⟨p, ws, ex, hq, fun p' np =>
        q _ _ _ (Ext.laid np) (rh.laid np) (RD.newLst rh np (cutD_rel rr) (Nat.le_trans (cutV_length _ _ _) z))⟩
    · cases e

/-! ### built-in functions -/
def rBf (K : PySem.W.Frag) (f : Hh → List D → Option D) : List V → Hp → VK → Prop := fun xs H Q => ∃ J h ds d, RH K J h H ∧ RDs K J H ds xs ∧ f h ds = some d ∧ ∀ J' H' v, Ext J H J' H' → RH K J' h H' → RD K J' H' d v → Q v H'
theorem one_inv {K : PySem.W.Frag} {J : Jn} {H : Hp} {d : D} {vs : List V} (r : RDs K J H [d] vs) : ∃ v, vs = [v] ∧ RD K J H d v := by
  cases r with | cons a b => cases b; exact ⟨_, rfl, a⟩
theorem two_inv {K : PySem.W.Frag} {J : Jn} {H : Hp} {d e : D} {vs : List V} (r : RDs K J H [d, e] vs) : ∃ v w, vs = [v, w] ∧ RD K J H d v ∧ RD K J H e w := by
  cases r with | cons a b => cases b with | cons b c => cases c; exact ⟨_, _, rfl, a, b⟩
theorem bf_len : CallR X (.builtin "len") (rBf X.K (opBf .len)) := by
  intro pins s σ H xs us Q I r ⟨J, h, ds, d, rh, rs, e0, q⟩
  have seqs : ∀ (p : Addr) (ws : List V) (n : Nat), xs = [.ref p] → (SqL X.K H p ws ∨ SqT X.K H p ws) → ws.length = n → d = .int n → wpAny (model X.prog X.w) X.A (call (.builtin "len") us) (EP X pins σ Q) X.xe s := by
    intro p ws n ex hq en ed
    exact call_len_seq pins s σ H xs us Q I r ⟨p, ws, ex, hq, by rw [en]; exact q _ _ _ Ext.refl rh (by rw [ed]; exact .int _)⟩
  have e : bfLen h ds = some d := e0
  clear e0
  unfold bfLen at e
  split at e
  · cases e
    obtain ⟨w, rfl, r1⟩ := one_inv rs
    obtain ⟨p, ws, ex, hq, z, rr⟩ := r1.tup_inv
    exact seqs p ws _ (by rw [ex]) (.inr hq) rr.length.symm rfl
  · cases e
    obtain ⟨w, rfl, r1⟩ := one_inv rs
    cases r1 with
    | lst n m q1 z rr => exact seqs _ _ _ rfl (.inl (.inl (.inl q1))) rr.length.symm rfl
  · cases e
    obtain ⟨w, rfl, r1⟩ := one_inv rs
    cases r1 with
    | fz n m q1 z rr => exact seqs _ _ _ rfl (.inl (.inl (.inr ⟨_, q1⟩))) rr.length.symm rfl
    | kfz k z rr => exact seqs _ _ _ rfl (.inl (.inr k)) rr.length.symm rfl
  · cases e
    obtain ⟨w, rfl, r1⟩ := one_inv rs
    cases r1 with
    | ft n m q1 c d z rr => exact seqs _ _ _ rfl (.inr (.inl (.inr ⟨_, q1⟩))) rr.length.symm rfl
  · obtain ⟨w, rfl, r1⟩ := one_inv rs
    split at e
    · rename_i hz; cases e; cases r1
      exact call_len_str pins s σ H _ us Q I r ⟨_, rfl, hz, q _ _ _ Ext.refl rh (.int _)⟩
    · cases e
  · obtain ⟨w, rfl, r1⟩ := one_inv rs
    cases r1 with
    | ref q1 =>
      obtain ⟨o, w, h1, h2, h3⟩ := rh.at q1
      rw [h1] at e
      cases h3 with
      | lst z rr => cases e; exact seqs _ _ _ rfl (.inl (.inl (.inl h2))) rr.length.symm rfl
      | dct z rr =>
        cases e
        refine call_lenD pins s σ H _ us Q I r ⟨_, _, rfl, h2, ?_⟩
        rw [← Paired.length rr]
        exact q _ _ _ Ext.refl rh (.int _)
  · cases e
theorem bf_int : CallR X (.type "int") (rBf X.K (opBf .int)) := by
  intro pins s σ H xs us Q I r ⟨J, h, ds, d, rh, rs, e0, q⟩
  have e : bfInt ds = some d := e0
  clear e0
  unfold bfInt at e
  split at e
  · cases e
    obtain ⟨w, rfl, r1⟩ := one_inv rs; cases r1
    exact call_int1 pins s σ H _ us Q I r (.inl ⟨_, rfl, q _ _ _ Ext.refl rh (.int _)⟩)
  · cases e
    obtain ⟨w, rfl, r1⟩ := one_inv rs; cases r1
    exact call_int1 pins s σ H _ us Q I r (.inr ⟨_, rfl, q _ _ _ Ext.refl rh (.int _)⟩)
  · cases e
theorem bf_abs : CallR X (.builtin "abs") (rBf X.K (opBf .abs)) := by
  intro pins s σ H xs us Q I r ⟨J, h, ds, d, rh, rs, e0, q⟩
  have e : bfAbs ds = some d := e0
  clear e0
  unfold bfAbs at e
  split at e
  · cases e
    obtain ⟨w, rfl, r1⟩ := one_inv rs; cases r1
    exact call_abs pins s σ H _ us Q I r ⟨_, rfl, q _ _ _ Ext.refl rh (.int _)⟩
  · cases e
theorem seq_cases {K : PySem.W.Frag} {J : Jn} {H : Hp} {h : Hh} {d : D} {ds : List D} {v : V} (rh : RH K J h H) (hf : ∀ ys, d ≠ .ftup ys) (e : d.seq h = some ds) (r : RD K J H d v) :
    d = .tup ds ∨ ∃ a vs, v = .ref a ∧ SqL K H a vs ∧ vs.length ≤ sizeLine ∧ RDs K J H ds vs := by
  cases d with
  | ftup xs => exact (hf xs rfl).elim
  | tup xs => cases e; exact .inl rfl
  | lst xs => exact .inr (res_inv rh (by cases e; rfl) r)
  | fz xs => exact .inr (res_inv rh (by cases e; rfl) r)
  | ref i => exact .inr (res_inv rh (by
      simp only [D.seq] at e
      split at e
      · rename_i q; cases e; simp only [D.res, q]
      · cases e) r)
  | _ => cases e
theorem bf_tuple : CallR X (.type "tuple") (rBf X.K (opBf .tuple)) := by
  intro pins s σ H xs us Q I r ⟨J, h, ds, d, rh, rs, e0, q⟩
  have e : bfTuple h ds = some d := e0
  clear e0
  unfold bfTuple at e
  split at e
  · cases e
  · rename_i x0 hx0
    obtain ⟨w, rfl, r1⟩ := one_inv rs
    simp only [Option.map_eq_some_iff] at e
    obtain ⟨ys, e1, rfl⟩ := e
    rcases seq_cases rh (fun ys z => hx0 ys (by rw [z])) e1 r1 with rfl | ⟨p, ws, rfl, hq, z, rr⟩
    · obtain ⟨p, ws, rfl, hq, z, rr⟩ := r1.tup_inv
      exact call_tuple_of pins s σ H _ us Q I r ⟨p, ws, rfl, .inr ⟨hq, q _ _ _ Ext.refl rh r1⟩⟩
    · exact call_tuple_of pins s σ H _ us Q I r ⟨p, ws, rfl, .inl ⟨hq, fun l nl => q _ _ _ (Ext.laid nl) (rh.laid nl) (RD.newTup rh nl rr z)⟩⟩
  · cases e
theorem bf_max (hc : X.calm = true) : CallR X (.builtin "max") (rBf X.K (opBf .max2)) := by
  intro pins s σ H xs us Q I r ⟨J, h, ds, d, rh, rs, e0, q⟩
  have e : bfMax ds = some d := e0
  clear e0
  unfold bfMax at e
  split at e
  · cases e
    obtain ⟨w, w2, rfl, r1, r2⟩ := two_inv rs; cases r1; cases r2
    exact call_max2 hc pins s σ H _ us Q I r ⟨_, _, rfl, q _ _ _ Ext.refl rh (.int _)⟩
  · cases e
theorem bf_min (hc : X.calm = true) : CallR X (.builtin "min") (rBf X.K (opBf .min2)) := by
  intro pins s σ H xs us Q I r ⟨J, h, ds, d, rh, rs, e0, q⟩
  have e : bfMin ds = some d := e0
  clear e0
  unfold bfMin at e
  split at e
  · cases e
    obtain ⟨w, w2, rfl, r1, r2⟩ := two_inv rs; cases r1; cases r2
    exact call_min2 hc pins s σ H _ us Q I r ⟨_, _, rfl, q _ _ _ Ext.refl rh (.int _)⟩
  · cases e
theorem ints_rel {K : PySem.W.Frag} {J : Jn} {H : Hp} : ∀ {ds : List D} {vs : List V} {ns : List Int}, RDs K J H ds vs → D.ints ds = some ns → vs = ns.map V.int
  | _, _, _, .nil, e => by cases e; rfl
  | _, _, _, .cons r t, e => by
    cases r <;> simp only [D.ints] at e <;> try (cases e; done)
    simp only [Option.map_eq_some_iff] at e
    obtain ⟨ms, e, rfl⟩ := e
    rw [ints_rel t e]; rfl
theorem bls_rel {K : PySem.W.Frag} {J : Jn} {H : Hp} : ∀ {ds : List D} {vs : List V} {ns : List Bool}, RDs K J H ds vs → D.bls ds = some ns → vs = ns.map V.bl
  | _, _, _, .nil, e => by cases e; rfl
  | _, _, _, .cons r t, e => by
    cases r <;> simp only [D.bls] at e <;> try (cases e; done)
    simp only [Option.map_eq_some_iff] at e
    obtain ⟨ms, e, rfl⟩ := e
    rw [bls_rel t e]; rfl
theorem lstOf_inv {d : D} {ds : List D} (e : d.lstOf = some ds) : d = .lst ds := by
  cases d <;> cases e; rfl
theorem bf_sum (hc : X.calm = true) : CallR X (.builtin "sum") (rBf X.K (opBf .sum)) := by
  intro pins s σ H xs us Q I r ⟨J, h, ds, d, rh, rs, e0, q⟩
  have e : bfSum h ds = some d := e0
  clear e0
  unfold bfSum at e
  split at e
  · obtain ⟨w, rfl, r1⟩ := one_inv rs
    simp only [Option.map_eq_some_iff, Option.bind_eq_some_iff] at e
    obtain ⟨ns, ⟨ys, e1, e2⟩, rfl⟩ := e
    obtain ⟨p, ws, rfl, hq, z, rr⟩ := res_inv rh (lstOf_inv e1) r1
    obtain rfl := ints_rel rr e2
    exact cr_sum hc pins s σ H _ us Q I r ⟨p, ns, rfl, hq, q _ _ _ Ext.refl rh (.int _)⟩
  · cases e
theorem bf_all (hc : X.calm = true) : CallR X (.builtin "all") (rBf X.K (opBf .all)) := by
  intro pins s σ H xs us Q I r ⟨J, h, ds, d, rh, rs, e0, q⟩
  have e : bfAll h ds = some d := e0
  clear e0
  unfold bfAll at e
  split at e
  · obtain ⟨w, rfl, r1⟩ := one_inv rs
    simp only [Option.map_eq_some_iff, Option.bind_eq_some_iff] at e
    obtain ⟨ns, ⟨ys, e1, e2⟩, rfl⟩ := e
    obtain ⟨p, ws, rfl, hq, z, rr⟩ := res_inv rh (lstOf_inv e1) r1
    obtain rfl := bls_rel rr e2
    exact cr_all hc pins s σ H _ us Q I r ⟨p, ns, rfl, hq, q _ _ _ Ext.refl rh (.bl _)⟩
  · cases e
theorem bf_any (hc : X.calm = true) : CallR X (.builtin "any") (rBf X.K (opBf .any)) := by
  intro pins s σ H xs us Q I r ⟨J, h, ds, d, rh, rs, e0, q⟩
  have e : bfAny h ds = some d := e0
  clear e0
  unfold bfAny at e
  split at e
  · obtain ⟨w, rfl, r1⟩ := one_inv rs
    simp only [Option.map_eq_some_iff, Option.bind_eq_some_iff] at e
    obtain ⟨ns, ⟨ys, e1, e2⟩, rfl⟩ := e
    obtain ⟨p, ws, rfl, hq, z, rr⟩ := res_inv rh (lstOf_inv e1) r1
    obtain rfl := bls_rel rr e2
    exact cr_any hc pins s σ H _ us Q I r ⟨p, ns, rfl, hq, q _ _ _ Ext.refl rh (.bl _)⟩
  · cases e
/-- repr of plain data -/
theorem bf_repr (hu : X.A.units + 200 < cLine) (hg : X.A.guards = some []) : CallR X (.builtin "repr") (rBf X.K (opBf .repr)) := by
  intro pins s σ H xs us Q I r ⟨J, h, ds, d, rh, rs, e0, q⟩
  have e : bfRepr h ds = some d := e0
  clear e0
  unfold bfRepr at e
  split at e
  · rename_i x
    obtain ⟨w, rfl, r1⟩ := one_inv rs
    unfold reprD at e
    split at e
    · rename_i hc
      cases e
      (simp only [Bool.and_eq_true, decide_eq_true_eq] at hc)
      obtain ⟨⟨h2, h3⟩, h4⟩ := hc
      have hl : (x.res h).lay = true := by simp only [D.shp, Bool.and_eq_true] at h2; exact h2.1
      have hd : (x.res h).dep ≤ 64 := by simp only [D.shp, Bool.and_eq_true, decide_eq_true_eq] at h2; exact h2.2
      have dp := res_dp rh hl r1
      have seq : ∀ a, w = .ref a → wpAny (model X.prog X.w) X.A (call (.builtin "repr") us) (EP X pins σ Q) X.xe s := by
        rintro u rfl
        obtain rfl := Vals.ref1 r
        obtain ⟨as, rd⟩ := Dp.reads I _ _ (.ref u) dp rfl
        exact repr_of_reads' rd h3 (PyData.noDict_hsm (PyData.hasDict_of_canLay _ (lay_py _ hl))) hg (by rw [dep_py _ hl]; omega) (fun _ _ z => z) (fun h' t tk hk => ⟨.str _, H, I.kept hk, ⟨_, rfl⟩, q _ _ _ Ext.refl rh (.str _)⟩) h4
      obtain ⟨u, rfl, ru⟩ : ∃ u, us = [u] ∧ L2.RelV w u := by
        cases r with | cons p t => cases t; exact ⟨_, rfl, p⟩
      have q2 := q _ _ _ Ext.refl rh (.str _)
      generalize x.res h = y at dp h3 h4 hl q2
      cases y with
      | tup ys => simp only [D.py] at dp; cases dp; exact seq _ rfl
      | lst ys => simp only [D.py] at dp; cases dp; exact seq _ rfl
      | non =>
        simp only [D.py] at dp; cases dp
        cases ru
        exact PySem.P.repr_of_none ⟨.str _, H, I.tok _, ⟨_, rfl⟩, q2⟩
      | bl b =>
        simp only [D.py] at dp; cases dp
        cases ru
        exact PySem.P.repr_of_bool ⟨.str _, H, I.tok _, ⟨_, rfl⟩, q2⟩
      | int i =>
        simp only [D.py] at dp; cases dp
        obtain ⟨t, rfl⟩ := ru
        simp only [D.py, PyData.showable, decide_eq_true_eq] at h3
        exact PySem.P.repr_of_int h3 ⟨.str _, H, I.tok _, ⟨_, rfl⟩, q2⟩
      | str z =>
        simp only [D.py] at dp; cases dp
        obtain ⟨t, rfl⟩ := ru
        exact PySem.P.repr_of_str ⟨.str _, H, I.tok _, ⟨_, rfl⟩, q2⟩ h4
      | _ => cases hl
    · cases e
  · cases e
/-! sorted -/
theorem insI_perm (x : Int) : ∀ l : List Int, (insI x l).Perm (x :: l)
  | [] => .refl _
  | y :: r => by
    unfold insI; split
    · exact .refl _
    · exact ((insI_perm x r).cons y).trans (.swap x y r)
theorem srtI_perm : ∀ l : List Int, (srtI l).Perm l
  | [] => .refl _
  | x :: r => (insI_perm x (srtI r)).trans ((srtI_perm r).cons x)
theorem insI_srt (x : Int) : ∀ {l : List Int}, l.Pairwise (· ≤ ·) → (insI x l).Pairwise (· ≤ ·)
  | [], _ => by simp [insI]
  | y :: r, h => by
    (obtain ⟨h1, h2⟩ := List.pairwise_cons.mp h)
    unfold insI; split
    · rename_i le
      exact List.pairwise_cons.mpr ⟨fun z hz => (List.mem_cons.mp hz).elim (fun e => by rw [e]; exact le) fun hz => Int.le_trans le (h1 z hz), h⟩
    · rename_i le
      refine List.pairwise_cons.mpr ⟨fun z hz => ?_, insI_srt x h2⟩
      rcases List.mem_cons.mp ((insI_perm x r).mem_iff.mp hz) with e | hz
      · omega
      · exact h1 z hz
theorem srtI_srt : ∀ l : List Int, (srtI l).Pairwise (· ≤ ·)
  | [] => .nil
  | x :: r => insI_srt x (srtI_srt r)
theorem srtI_eq {l m : List Int} (p : m.Perm l) (s : m.Pairwise (· ≤ ·)) : m = srtI l :=
  List.Perm.eq_of_pairwise (fun _ _ _ _ => Int.le_antisymm) s (srtI_srt l) (p.trans (srtI_perm l).symm)
def leS (x y : Str) : Prop := PySem.Spec.ltCps y.cps.toList x.cps.toList = false
theorem leS_iff {x y : Str} : leS x y ↔ ¬ y.cps.toList < x.cps.toList := by
  unfold leS
  rw [ltCps_eq, decide_eq_false_iff_not]
theorem leS_trans {x y z : Str} (a : leS x y) (b : leS y z) : leS x z := by
  rw [leS_iff] at *
  exact List.le_trans (l₁ := x.cps.toList) a b
theorem leS_total {x y : Str} (a : ¬ leS x y) : leS y x := by
  rw [leS_iff] at *
  exact List.lt_asymm (Decidable.not_not.mp a)
theorem leS_anti {x y : Str} (a : leS x y) (b : leS y x) : x = y := by
  rw [leS_iff] at *
  have e : x.cps.toList = y.cps.toList := List.le_antisymm a b
  cases x; cases y
  simp only [Array.toList_inj] at e
  rw [e]
theorem insS_perm (x : Str) : ∀ l : List Str, (insS x l).Perm (x :: l)
  | [] => .refl _
  | y :: r => by
    unfold insS; split
    · exact ((insS_perm x r).cons y).trans (.swap x y r)
    · exact .refl _
theorem srtS_perm : ∀ l : List Str, (srtS l).Perm l
  | [] => .refl _
  | x :: r => (insS_perm x (srtS r)).trans ((srtS_perm r).cons x)
theorem insS_srt (x : Str) : ∀ {l : List Str}, l.Pairwise leS → (insS x l).Pairwise leS
  | [], _ => by simp [insS]
  | y :: r, h => by
    (obtain ⟨h1, h2⟩ := List.pairwise_cons.mp h)
    unfold insS; split
    · rename_i lt
      refine List.pairwise_cons.mpr ⟨fun z hz => ?_, insS_srt x h2⟩
      rcases List.mem_cons.mp ((insS_perm x r).mem_iff.mp hz) with e | hz
      · rw [e]; exact leS_total (by unfold leS; rw [lt]; exact Bool.noConfusion)
      · exact h1 z hz
    · rename_i nlt
      have le : leS x y := by simpa [leS] using nlt
      exact List.pairwise_cons.mpr ⟨fun z hz => (List.mem_cons.mp hz).elim (fun e => by rw [e]; exact le) fun hz => leS_trans le (h1 z hz), h⟩
theorem srtS_srt : ∀ l : List Str, (srtS l).Pairwise leS
  | [] => .nil
  | x :: r => insS_srt x (srtS_srt r)
theorem srt_of_rising : ∀ (p : Str) (l : List Str), risingS p l = true → (p :: l).Pairwise leS
  | p, [], _ => by simp
  | p, x :: r, h => by
    simp only [risingS, Bool.and_eq_true, Bool.not_eq_true'] at h
    have ih := srt_of_rising x r h.2
    have px : leS p x := h.1
    refine List.pairwise_cons.mpr ⟨fun z hz => ?_, ih⟩
    (rcases List.mem_cons.mp hz with e | hz)
    · rw [e]; exact px
    · exact leS_trans px ((List.pairwise_cons.mp ih).1 z hz)
theorem srtS_eq {l m : List Str} (p : m.Perm l) (s : sortedS m = true) : m = srtS l := by
  have s2 : m.Pairwise leS := by
    cases m with
    | nil => exact .nil
    | cons x r => exact srt_of_rising x r s
  exact List.Perm.eq_of_pairwise (fun _ _ _ _ => leS_anti) s2 (srtS_srt l) (p.trans (srtS_perm l).symm)
theorem insD_mem (x : Int) : ∀ {l : List Int} {z : Int}, z ∈ insD x l ↔ z = x ∨ z ∈ l
  | [], z => by simp [insD]
  | y :: r, z => by
    unfold insD; split
    · simp
    · split
      · rename_i e; subst e; simp
      · simp only [List.mem_cons, insD_mem x]; exact or_left_comm
theorem srtD_mem : ∀ {l : List Int} {z : Int}, z ∈ srtD l ↔ z ∈ l
  | [], z => by simp [srtD]
  | x :: r, z => by
    show z ∈ insD x (srtD r) ↔ _
    rw [insD_mem, srtD_mem, List.mem_cons]
theorem insD_srt (x : Int) : ∀ {l : List Int}, l.Pairwise (· < ·) → (insD x l).Pairwise (· < ·)
  | [], _ => by simp [insD]
  | y :: r, h => by
    (obtain ⟨h1, h2⟩ := List.pairwise_cons.mp h)
    unfold insD; split
    · rename_i lt
      exact List.pairwise_cons.mpr ⟨fun z hz => (List.mem_cons.mp hz).elim (fun e => by rw [e]; exact lt) fun hz => Int.lt_trans lt (h1 z hz), h⟩
    · split
      · exact h
      · refine List.pairwise_cons.mpr ⟨fun z hz => ?_, insD_srt x h2⟩
        rcases (insD_mem x).mp hz with e | hz
        · omega
        · exact h1 z hz
theorem srtD_srt : ∀ l : List Int, (srtD l).Pairwise (· < ·)
  | [] => .nil
  | x :: r => insD_srt x (srtD_srt r)
theorem srtD_eq {l m : List Int} (s : m.Pairwise (· < ·)) (e : ∀ z, z ∈ m ↔ z ∈ l) : m = srtD l := by
  have nd : ∀ {k : List Int}, k.Pairwise (· < ·) → k.Nodup := fun h => h.imp fun h => Int.ne_of_lt h
  refine List.Perm.eq_of_pairwise (le := (· < ·)) (fun a b _ _ h1 h2 => (Int.lt_asymm h1 h2).elim) s (srtD_srt l) ?_
  exact (List.perm_ext_iff_of_nodup (nd s) (nd (srtD_srt l))).mpr fun z => by rw [e, srtD_mem]
theorem strs_rel {K : PySem.W.Frag} {J : Jn} {H : Hp} : ∀ {ds : List D} {vs : List V} {ns : List Str}, RDs K J H ds vs → D.strs ds = some ns → vs = ns.map V.str
  | _, _, _, .nil, e => by cases e; rfl
  | _, _, _, .cons r t, e => by
    cases r <;> simp only [D.strs] at e <;> try (cases e; done)
    simp only [Option.map_eq_some_iff] at e
    obtain ⟨ms, e, rfl⟩ := e
    rw [strs_rel t e]; rfl
theorem rds_ints {K : PySem.W.Frag} {J : Jn} {H : Hp} : ∀ ns : List Int, RDs K J H (ns.map D.int) (ns.map V.int)
  | [] => .nil
  | n :: ns => .cons (.int n) (rds_ints ns)
theorem rds_strs {K : PySem.W.Frag} {J : Jn} {H : Hp} : ∀ ns : List Str, RDs K J H (ns.map D.str) (ns.map V.str)
  | [] => .nil
  | n :: ns => .cons (.str n) (rds_strs ns)
theorem seq_both {K : PySem.W.Frag} {J : Jn} {H : Hp} {h : Hh} {d : D} {ds : List D} {v : V} (rh : RH K J h H) (hf : ∀ ys, d ≠ .ftup ys) (e : d.seq h = some ds) (r : RD K J H d v) :
    ∃ a vs, v = .ref a ∧ (SqL K H a vs ∨ SqT K H a vs) ∧ RDs K J H ds vs := by
  rcases seq_cases rh hf e r with rfl | ⟨p, ws, rfl, hq, z, rr⟩
  · obtain ⟨p, ws, rfl, hq, z, rr⟩ := r.tup_inv
    exact ⟨p, ws, rfl, .inr hq, rr⟩
  · exact ⟨p, ws, rfl, .inl hq, rr⟩
theorem keyInts_rel {K : PySem.W.Frag} {J : Jn} {H : Hp} : ∀ {kvs : List (Key × D)} {kws : List (Key × V)} {ns : List Int}, Paired (fun p q => p.1 = q.1 ∧ RD K J H p.2 q.2) kvs kws → keyInts kvs = some ns → kws.map (·.1) = ns.map Sum.inl
  | _, _, _, .nil, e => by cases e; rfl
  | (p1, p2) :: ps, q :: qs, ns, .cons x t, e => by
    cases p1 with
    | inl i =>
      simp only [keyInts, Option.map_eq_some_iff] at e
      obtain ⟨ms, e, rfl⟩ := e
      rw [List.map_cons, keyInts_rel t e, ← x.1]; rfl
    | inr i => simp [keyInts] at e
/-- the items sorted -/
theorem srt_do {pins : List (Addr × Obj)} {s : Shared} {σ : L2.St} {H : Hp} {us : List Value} {Q : VK} {J : Jn} {h : Hh} {any : Bool} {ys : List D} {ws : List V} {d : D} {p : Addr} (I : Inv X pins σ H s) (r : Vals [V.ref p] us) (rh : RH X.K J h H)
    (hq : SqL X.K H p ws ∨ (any = false ∧ SqT X.K H p ws)) (hz : ws.length ≤ sizeLine) (rr : RDs X.K J H ys ws) (e : srtItems any ys = some d) (q : ∀ J' H' v, Ext J H J' H' → RH X.K J' h H' → RD X.K J' H' d v → Q v H') :
    wpAny (model X.prog X.w) X.A (call (.builtin "sorted") us) (EP X pins σ Q) X.xe s := by
  unfold srtItems at e
  split at e
  · rename_i ns hi
    obtain rfl := ints_rel rr hi
    rw [List.length_map] at hz
    split at e
    · rename_i h64
      cases e
      have fin : ∀ (ns2 : List Int) (p2 : Addr), ns2.Perm ns → ns2.Pairwise (· ≤ ·) → H p2 = none → Q (.ref p2) (upd H p2 (.lst (ns2.map V.int))) := fun ns2 p2 a1 a2 np => by
        rw [srtI_eq a1 a2]
        refine q _ _ _ (Ext.laid np) (rh.laid np) (RD.newLst rh np (rds_ints _) ?_)
        rw [List.length_map, (srtI_perm ns).length_eq]; exact hz
      rcases hq with hq | ⟨ha, hq⟩
      · exact cr_sortedI pins s σ H _ us Q I r ⟨p, ns, rfl, hq, fin⟩
      · subst ha
        simp only [Bool.false_or, decide_eq_true_eq] at h64
        exact PVX.cr_srtI pins s σ H _ us Q I r ⟨p, ns, rfl, .inr hq, h64, fin⟩
    · cases e
  · split at e
    · rename_i ns hi
      obtain rfl := strs_rel rr hi
      split at e
      · rename_i h64
        cases e
        refine PVX.cr_srtS pins s σ H _ us Q I r ⟨p, ns, rfl, hq.elim .inl (fun z => .inr z.2), h64, fun ns2 p2 a1 a2 np => ?_⟩
        rw [srtS_eq a1 a2]
        refine q _ _ _ (Ext.laid np) (rh.laid np) (RD.newLst rh np (rds_strs _) ?_)
        rw [List.length_map, (srtS_perm ns).length_eq]; exact small64 h64
      · cases e
    · cases e
theorem bf_sorted (hc : X.calm = true) : CallR X (.builtin "sorted") (rBf X.K (opBf .sorted)) := by
  intro pins s σ H xs us Q I r ⟨J, h, ds, d, rh, rs, e0, q⟩
  have e : bfSorted h ds = some d := e0
  clear e0
  unfold bfSorted at e
  split at e
  · cases e
  · obtain ⟨w, rfl, r1⟩ := one_inv rs
    obtain ⟨p, ws, rfl, hq, z, rr⟩ := r1.tup_inv
    exact srt_do I r rh (.inr ⟨rfl, hq⟩) z rr e q
  · obtain ⟨w, rfl, r1⟩ := one_inv rs
    obtain ⟨p, ws, rfl, hq, z, rr⟩ := res_inv rh rfl r1
    exact srt_do I r rh (.inl hq) z rr e q
  · obtain ⟨w, rfl, r1⟩ := one_inv rs
    obtain ⟨p, ws, rfl, hq, z, rr⟩ := res_inv rh rfl r1
    exact srt_do I r rh (.inl hq) z rr e q
  · obtain ⟨w, rfl, r1⟩ := one_inv rs
    cases r1 with
    | @ref i a q1 =>
      obtain ⟨o, w, h1, h2, h3⟩ := rh.at q1
      simp only [h1] at e
      cases h3 with
      | lst z rr => exact srt_do I r rh (.inl (.inl (.inl h2))) z rr e q
      | @dct kvs kws z rr =>
        simp only [Option.bind_eq_some_iff] at e
        obtain ⟨ns, e1, e2⟩ := e
        split at e2
        · rename_i h64
          cases e2
          refine call_sortedDI hc pins s σ H _ us Q I r ⟨a, kws, ns, rfl, .inl h2, keyInts_rel rr e1, h64, fun ns2 p2 a1 a2 np => ?_⟩
          rw [srtI_eq a1 a2]
          refine q _ _ _ (Ext.laid np) (rh.laid np) (RD.newLst rh np (rds_ints _) ?_)
          rw [List.length_map, (srtI_perm ns).length_eq]; exact small64 h64
        · cases e2
  · cases e
/-- list(x): a new list -/
theorem bf_list : CallR X (.type "list") (fun xs H Q => ∃ J h ds d, RH X.K J h H ∧ RDs X.K J H ds xs ∧ bfList h ds = some d ∧ ∀ p ys vs, d = .lst ys → H p = none → vs.length ≤ sizeLine → RDs X.K J H ys vs → Q (.ref p) (upd H p (.lst vs))) := by
  intro pins s σ H xs us Q I r ⟨J, h, ds, d, rh, rs, e, q⟩
  unfold bfList at e
  split at e
  · obtain ⟨w, rfl, r1⟩ := one_inv rs
    simp only [Option.map_eq_some_iff] at e
    obtain ⟨ys, e, rfl⟩ := e
    obtain ⟨p, ws, rfl, hq, z, rr⟩ := seq_inv rh e r1
    exact call_list_of pins s σ H _ us Q I r ⟨p, ws, rfl, hq, fun l nl => q l _ _ rfl nl z rr⟩
  · cases e

/-! ### isinstance -/
def Ty.nm : Ty → String
  | .int => "int" | .str => "str" | .tup => "tuple" | .lst => "list" | .bl => "bool" | .dct => "dict" | .non => "NoneType"
def D.tyn (h : Hh) : D → String
  | .ftup _ => "tuple" | .exc _ => "NoneType" | .exf _ _ _ => "NoneType" | .non => "NoneType" | .bl _ => "bool" | .int _ => "int" | .str _ => "str" | .tup _ => "tuple" | .lst _ => "list" | .fz _ => "list"
  | .ref i => match h[i]? with
    | some (.dct _) => "dict"
    | _ => "list"
theorem tyx_of {K : PySem.W.Frag} {J : Jn} {H : Hp} {h : Hh} {d : D} {v : V} (rh : RH K J h H) (hf : d.isF = false) (r : RD K J H d v) : TyX K H v (.type (d.tyn h)) := by
  cases r with
  | ft n m q c d z r => cases hf
  | exc n m q => cases hf
  | exf n m q n2 m2 q2 r => cases hf
  | non => exact .base .non
  | bl b => exact .base (.bl b)
  | int i => exact .base (.int i)
  | str x => exact .base (.str x)
  | tup n m q z r => exact .base (.tup q)
  | ktup k z r => obtain ⟨o, its, n, k1, k2, _⟩ := k; exact .kTuple k1 k2
  | lst n m q z r => exact .base (.lst q)
  | fz n m q z r => exact .base (.frz q)
  | kfz k z r => obtain ⟨o, its, n, k1, k2, _⟩ := k; exact .kList k1 k2
  | ref q =>
    obtain ⟨o, u, h1, h2, h3⟩ := rh.at q
    simp only [D.tyn, h1]
    cases h3 with
    | lst z r => exact .base (.lst h2)
    | dct z r => exact .base (.dK h2)
theorem isi_kit : ∀ (t : Ty) (n : String), n ∈ ["NoneType", "bool", "int", "str", "tuple", "list", "dict"] → kitB n t.nm = some (decide (n = t.nm) || (decide (n = "bool") && decide (t.nm = "int"))) := by
  intro t n hn
  simp only [List.mem_cons, List.not_mem_nil, or_false] at hn
  cases t <;> rcases hn with rfl | rfl | rfl | rfl | rfl | rfl | rfl <;> decide +kernel
theorem isi_ops {t : Ty} : CallR X (.builtin "isinstance") (fun xs H Q => ∃ J h d v, RH X.K J h H ∧ d.isF = false ∧ RD X.K J H d v ∧ xs = [v, .ty t.nm] ∧ Q (.bl (opIsi t h d)) H) := by
  intro pins s σ H xs us Q I r ⟨J, h, d, v, rh, hf, r1, ex, q⟩
  have hn : d.tyn h ∈ ["NoneType", "bool", "int", "str", "tuple", "list", "dict"] := by
    cases d <;> simp only [D.tyn] <;> try decide
    split <;> decide
  have e := isi_kit t _ hn
  have e2 : (decide (d.tyn h = t.nm) || (decide (d.tyn h = "bool") && decide (t.nm = "int"))) = opIsi t h d := by
    cases r1 with
    | ref q1 =>
      obtain ⟨o, w, h1, h2, h3⟩ := rh.at q1
      cases o <;> cases t <;> simp [opIsi, D.tyn, h1, Ty.nm]
    | ft => cases hf
    | exc => cases hf
    | exf => cases hf
    | _ => cases t <;> simp [opIsi, D.tyn, Ty.nm]
  rw [e2] at e
  exact call_isi pins s σ H xs us Q I r ⟨v, .ty t.nm, .type (d.tyn h), .type t.nm, _, ex, .ty _, tyx_of rh hf r1, kit_ty e, q⟩

/-! ### methods -/
def rMt (K : PySem.W.Frag) (m : Mt) : V → List V → Hp → VK → Prop := fun x xs H Q => ∃ J h dx ds d h', RH K J h H ∧ RD K J H dx x ∧ RDs K J H ds xs ∧ mthOp m dx ds h = .ok d h' ∧ ∀ J' H' v, Ext J H J' H' → RH K J' h' H' → RD K J' H' d v → Q v H'
theorem RH.writeL {K : PySem.W.Frag} {J : Jn} {h : Hh} {H : Hp} {i : Nat} {a : Addr} {ds : List D} {vs : List V} (rh : RH K J h H) (q : J.l[i]? = some a) (z : vs.length ≤ sizeLine) (r : RDs K J H ds vs) : RH K J (h.set i (.lst ds)) (upd H a (.lst vs)) :=
  rh.write q (.lst z (r.ext (Ext.write q)))
theorem mt_lst {K : PySem.W.Frag} {J : Jn} {h : Hh} {H : Hp} {m : Mt} {x : V} {dx d : D} {ds : List D} {h' : Hh} (rh : RH K J h H) (r1 : RD K J H dx x) (e : mthOp m dx ds h = .ok d h') :
    ∃ i a ys ws ys', x = .ref a ∧ J.l[i]? = some a ∧ H a = some (.lst ws) ∧ ws.length ≤ sizeLine ∧ RDs K J H ys ws ∧ mtL m ys ds = some (d, ys') ∧ h' = h.set i (.lst ys') := by
  cases r1 with
  | ref q1 =>
    obtain ⟨o, w, h1, h2, h3⟩ := rh.at q1
    simp only [mthOp, mthRef, h1] at e
    cases h3 with
    | lst z rr =>
      dsimp only at e
      split at e
      · rename_i p hp; cases e; exact ⟨_, _, _, _, _, rfl, q1, h2, z, rr, hp, rfl⟩
      · cases e
    | dct z rr => cases e
  | _ => cases e
theorem mt_appendD : MtR X "list.append" (rMt X.K .append) := by
  intro pins s σ H x xs v us Q I rx rs ⟨J, h, dx, ds, d, h', rh, r1, r2, e, q⟩
  obtain ⟨i, a, ys, ws, ys', rfl, q1, h2, z, rr, e1, rfl⟩ := mt_lst rh r1 e
  have e2 : mtAppend ys ds = some (d, ys') := e1
  unfold mtAppend at e2
  split at e2
  · split at e2
    · rename_i hz; cases e2
      obtain ⟨y, rfl, ry⟩ := one_inv r2
      have hs : ws.length + 1 ≤ sizeLine := by rw [← rr.length]; exact size_of hz
      exact mt_append pins s σ H _ _ v us Q I rx rs ⟨_, ws, y, rfl, rfl, h2, hs, q _ _ _ (Ext.write q1) (rh.writeL q1 (by rw [List.length_append]; exact hs) (rr.append (.cons ry .nil))) .non⟩
    · cases e2
  · cases e2
theorem mt_popD : MtR X "list.pop" (fun x xs H Q => rMt X.K .pop x xs H Q ∨ rMt X.K .popAt x xs H Q) := by
  intro pins s σ H x xs v us Q I rx rs hw
  rcases hw with ⟨J, h, dx, ds, d, h', rh, r1, r2, e, q⟩ | ⟨J, h, dx, ds, d, h', rh, r1, r2, e, q⟩
  · obtain ⟨i, a, ys, ws, ys', rfl, q1, h2, z, rr, e1, rfl⟩ := mt_lst rh r1 e
    have e2 : mtPop ys ds = some (d, ys') := e1
    unfold mtPop at e2
    split at e2
    · simp only [Option.map_eq_some_iff] at e2
      obtain ⟨y, hy, e3⟩ := e2
      cases e3
      rw [rr.length] at hy
      obtain ⟨w, hw, rw'⟩ := rr.get hy
      cases r2
      exact mt_pop pins s σ H _ _ v us Q I rx rs ⟨_, ws, w, rfl, rfl, h2, hw, q _ _ _ (Ext.write q1) (rh.writeL q1 (by rw [List.length_dropLast]; omega) rr.dropLast) (rw'.ext (Ext.write q1))⟩
    · cases e2
  · obtain ⟨i, a, ys, ws, ys', rfl, q1, h2, z, rr, e1, rfl⟩ := mt_lst rh r1 e
    have e2 : mtPopAt ys ds = some (d, ys') := e1
    unfold mtPopAt at e2
    split at e2
    · simp only [Option.map_eq_some_iff, Option.bind_eq_some_iff] at e2
      obtain ⟨j, hk, y, hy, e3⟩ := e2
      cases e3
      rw [rr.length] at hk
      obtain ⟨w, hw, rw'⟩ := rr.get hy
      obtain ⟨s1, s2, s3, s4⟩ := ixN_seq hk
      obtain ⟨y2, rfl, ry⟩ := one_inv r2
      cases ry
      have hs := sizeLine_eq
      refine mt_popAt pins s σ H _ _ v us Q I rx rs ⟨_, ws, _, j, w, rfl, rfl, h2, by omega, by omega, s1, hw, q _ _ _ (Ext.write q1) (rh.writeL q1 ?_ (rr.eraseIdx _)) (rw'.ext (Ext.write q1))⟩
      have := List.length_eraseIdx_le ws j
      omega
    · cases e2
end
end PV
end

section
set_option maxRecDepth 100000
namespace PV
open L2 PySem PySem.Spec PyProof.Rows

/-! ### the text's forms -/
def asName : Expr → Option Str
  | .Name x _ => some x
  | _ => none
def asCon : Expr → Option Const
  | .Constant k _ _ => some k
  | _ => none
def asTup : Expr → Option (List Expr)
  | .Tuple xs _ _ => some xs
  | _ => none
def asLst : Expr → Option (List Expr)
  | .List xs _ => some xs
  | _ => none
def asBin : Expr → Option (Expr × Operator × Expr)
  | .BinOp a o b _ => some (a, o, b)
  | _ => none
def asUn : Expr → Option (UnaryOp × Expr)
  | .UnaryOp o a _ => some (o, a)
  | _ => none
def asCmp1 : Expr → Option (Expr × CmpOp × Expr)
  | .Compare a [o] [b] _ => some (a, o, b)
  | _ => none
def asCmp2 : Expr → Option (Expr × CmpOp × CmpOp × Expr × Expr)
  | .Compare a [o, p] [b, c] _ => some (a, o, p, b, c)
  | _ => none
def asBool : Expr → Option (BoolOp × Expr × List Expr)
  | .BoolOp o (a :: es) _ => some (o, a, es)
  | _ => none
def asIf : Expr → Option (Expr × Expr × Expr)
  | .IfExp c a b _ => some (c, a, b)
  | _ => none
def asSub : Expr → Option (Expr × Expr)
  | .Subscript a i _ => some (a, i)
  | _ => none
def asSlc : Expr → Option (Option Expr × Option Expr)
  | .Slice lo hi none _ => some (lo, hi)
  | _ => none
def asCall : Expr → Option (Str × List Expr)
  | .Call (.Name x _) es [] _ => some (x, es)
  | _ => none
def asMth : Expr → Option (Expr × Str × List Expr)
  | .Call (.Attribute o m apos) es [] cpos => if apos.endLine == cpos.line then some (o, m, es) else none
  | _ => none
def asLc : Expr → Option (Expr × Expr × Expr × List Expr × Scope)
  | .ListComp elt [⟨tg, iter, ifs, a⟩] scope _ => if a = 0 then some (elt, tg, iter, ifs, scope) else none
  | _ => none
def asDic0 : Expr → Bool
  | .Dict [] [] _ => true
  | _ => false
def asIsi : Expr → Option (Str × Expr × Str)
  | .Call (.Name f _) [a, .Name ty _] [] _ => some (f, a, ty)
  | _ => none
def asTenum : Expr → Option (Str × Str × Expr)
  | .Call (.Name f _) [.Call (.Name g _) [a] [] _] [] _ => some (f, g, a)
  | _ => none
def asCallK : Expr → Option (Str × List Expr × List Keyword)
  | .Call (.Name x _) es kws _ => some (x, es, kws)
  | _ => none
/-- not a star, a set display or a slice -/
def plainX : Expr → Bool
  | .Starred .. => false
  | .Set .. => false
  | .Slice .. => false
  | _ => true
section
variable {e : Expr}
theorem asName_eq {x : Str} (h : asName e = some x) : ∃ p, e = .Name x p := by cases e <;> simp [asName] at h; exact ⟨_, by rw [h]⟩
theorem asCon_eq {x : Const} (h : asCon e = some x) : ∃ k p, e = .Constant x k p := by cases e <;> simp [asCon] at h; exact ⟨_, _, by rw [h]⟩
theorem asTup_eq {x : List Expr} (h : asTup e = some x) : ∃ k p, e = .Tuple x k p := by cases e <;> simp [asTup] at h; exact ⟨_, _, by rw [h]⟩
theorem asLst_eq {x : List Expr} (h : asLst e = some x) : ∃ p, e = .List x p := by cases e <;> simp [asLst] at h; exact ⟨_, by rw [h]⟩
theorem asBin_eq {a b : Expr} {o : Operator} (h : asBin e = some (a, o, b)) : ∃ p, e = .BinOp a o b p := by
  cases e <;> simp [asBin] at h; obtain ⟨rfl, rfl, rfl⟩ := h; exact ⟨_, rfl⟩
theorem asUn_eq {a : Expr} {o : UnaryOp} (h : asUn e = some (o, a)) : ∃ p, e = .UnaryOp o a p := by
  cases e <;> simp [asUn] at h; obtain ⟨rfl, rfl⟩ := h; exact ⟨_, rfl⟩
theorem asCmp1_eq {a b : Expr} {o : CmpOp} (h : asCmp1 e = some (a, o, b)) : ∃ p, e = .Compare a [o] [b] p := by
  unfold asCmp1 at h
  split at h
  · cases h; exact ⟨_, rfl⟩
  · cases h
theorem asCmp2_eq {a b c : Expr} {o p : CmpOp} (h : asCmp2 e = some (a, o, p, b, c)) : ∃ q, e = .Compare a [o, p] [b, c] q := by
  unfold asCmp2 at h
  split at h
  · cases h; exact ⟨_, rfl⟩
  · cases h
theorem asBool_eq {a : Expr} {o : BoolOp} {es : List Expr} (h : asBool e = some (o, a, es)) : ∃ p, e = .BoolOp o (a :: es) p := by
  unfold asBool at h
  split at h
  · cases h; exact ⟨_, rfl⟩
  · cases h
theorem asIf_eq {a b c : Expr} (h : asIf e = some (c, a, b)) : ∃ p, e = .IfExp c a b p := by
  cases e <;> simp [asIf] at h; obtain ⟨rfl, rfl, rfl⟩ := h; exact ⟨_, rfl⟩
theorem asSub_eq {a i : Expr} (h : asSub e = some (a, i)) : ∃ p, e = .Subscript a i p := by
  cases e <;> simp [asSub] at h; obtain ⟨rfl, rfl⟩ := h; exact ⟨_, rfl⟩
theorem asSlc_eq {lo hi : Option Expr} (h : asSlc e = some (lo, hi)) : ∃ p, e = .Slice lo hi none p := by
  unfold asSlc at h
  split at h
  · cases h; exact ⟨_, rfl⟩
  · cases h
theorem asCall_eq {x : Str} {es : List Expr} (h : asCall e = some (x, es)) : ∃ p q, e = .Call (.Name x p) es [] q := by
  unfold asCall at h
  split at h
  · cases h; exact ⟨_, _, rfl⟩
  · cases h
theorem asMth_eq {o : Expr} {m : Str} {es : List Expr} (h : asMth e = some (o, m, es)) : ∃ p q, e = .Call (.Attribute o m p) es [] q ∧ (p.endLine == q.line) = true := by
  unfold asMth at h
  split at h
  · split at h
    · rename_i hl; cases h; exact ⟨_, _, rfl, hl⟩
    · cases h
  · cases h
theorem asLc_eq {elt tg iter : Expr} {ifs : List Expr} {scope : Scope} (h : asLc e = some (elt, tg, iter, ifs, scope)) : ∃ p, e = .ListComp elt [⟨tg, iter, ifs, 0⟩] scope p := by
  unfold asLc at h
  split at h
  · split at h
    · rename_i ha; cases h; subst ha; exact ⟨_, rfl⟩
    · cases h
  · cases h
theorem asDic0_eq (h : asDic0 e = true) : ∃ p, e = .Dict [] [] p := by
  unfold asDic0 at h
  split at h
  · exact ⟨_, rfl⟩
  · cases h
theorem asIsi_eq {f ty : Str} {a : Expr} (h : asIsi e = some (f, a, ty)) : ∃ p q r, e = .Call (.Name f p) [a, .Name ty q] [] r := by
  unfold asIsi at h
  split at h
  · cases h; exact ⟨_, _, _, rfl⟩
  · cases h
theorem asTenum_eq {f g : Str} {a : Expr} (h : asTenum e = some (f, g, a)) : ∃ p q r s, e = .Call (.Name f p) [.Call (.Name g q) [a] [] r] [] s := by
  unfold asTenum at h
  split at h
  · cases h; exact ⟨_, _, _, _, rfl⟩
  · cases h
theorem asCallK_eq {x : Str} {es : List Expr} {kws : List Keyword} (h : asCallK e = some (x, es, kws)) : ∃ p q, e = .Call (.Name x p) es kws q := by
  unfold asCallK at h
  split at h
  · cases h; exact ⟨_, _, rfl⟩
  · cases h
theorem plain_star (h : plainX e = true) (es : List Expr) (env : PySem.Env) : starEach (e :: es) env = (false, eval e env) :: starEach es env := by
  cases e <;> first | rfl | simp [plainX] at h
theorem plain_mark (h : plainX e = true) (o : CmpOp) : behindInMarks o e = false := by cases e <;> first | rfl | simp [plainX] at h
theorem plain_fold (h : plainX e = true) (env : PySem.Env) (x : Value) : foldedSetIterable e env x = pure x := by cases e <;> first | rfl | simp [plainX] at h
theorem plain_ix (h : plainX e = true) : PlainIx e := by intro o i; cases e <;> first | rfl | simp [plainX] at h
end
end PV
end

section
set_option maxRecDepth 100000
namespace PV
open L2 PySem PySem.Spec PyProof.Rows

/-! ### what is known of the place where a piece stands -/
structure Cs where
  N : List Str
  sc : Scope
  fn : Str → Bool
  bs : List Str
  T : List Fn
  gn : List Str
  /-- exception classes that are made -/
  xs : List Str
  xm : Xm
/-- what is known of exception classes -/
structure XF (K : PySem.W.Frag) (mg : Str → Option Value) (q : Xm) : Prop where
  m : ∀ x y b, (x, y, b) ∈ q.m → ∃ C C', mg x = some (.ref C) ∧ mg y = some (.ref C') ∧ PySem.W.exmOne K (.ref C) (.ref C') = some b
  g : ∀ x y b, (x, y, b) ∈ q.m → mg x = some (.ref (He.ga K x))
  i : ∀ x y b, (x, y, b) ∈ q.i → ∃ C', mg y = some (.ref C') ∧ ExcC K (He.ga K x) ∧ PySem.W.kitOne K (.ref (He.ga K x)) (.ref C') = some b
  f : ∀ x g, (x, g) ∈ q.f → XfC K (He.ga K x) ∧ PySem.W.findIn K (.ref (He.ga K x)) g = some none
def spF (K : PySem.W.Frag) (mg : Str → Option Value) (F : Fns) (f : Nat) (n : Nat) : Sp := fun vs H Q E => vs.length = n ∧ ∃ J h ds, RDs K J H ds vs ∧ RH K J h H ∧ PostX K mg E J H (rD K) (F f ds h) Q
/-- how a call with keywords binds -/
structure KwOk (K : PySem.W.Frag) (fd : FuncData) (ps : List Str) (n : Nat) (ks : List Str) (pm : List Nat) : Prop where
  to : ∀ (s : Shared) (us ws : List Value), K.In s.heap → us.length = n → ws.length = ks.length → BindsTo s fd ⟨us, ks.zip ws⟩ (ps.zip (pmD .none pm us ws))
  len : pm.length = ps.length
/-- what a def promises where no repr is under way -/
structure FnG (P : Program) (w : World) (K : PySem.W.Frag) (mg : Str → Option Value) (base : Heap) (k : Nat) (f : Addr) (fd : FuncData) (ps : List Str) (sp : Sp) : Prop where
  len : ∀ vs H Q E, (sp vs H Q E → vs.length = ps.length)
  go : ∀ {A : Around} {out : List PySem.Env} {s : Shared} {H : Hp} {args : Args} {us : List Value} {vs : List V} {Q : VK} {E : XK}, Room k A → A.guards = some [] → Env0 P w K mg base A out s H → BindsTo s fd args (ps.zip us) → Vals vs us → sp vs H Q E →
    codeAny (model P w) A (.call (.ref f) args) (CR (L2.CX P w) out P w H s Q E) s
structure CallOk (T : List Fn) (F : Fns) (X : Cx) : Prop where
  ok : ∃ k, Room k X.A ∧ X.A.guards = some [] ∧ ∀ (f : Nat) (fn : Fn), T[f]? = some fn → ∃ a fd, X.mg fn.name = some (.ref a) ∧ PySem.W.keepIn X.K (.ref a) = true ∧ FnG X.prog X.w X.K X.mg X.base k a fd fn.P (spF X.K X.mg F f fn.P.length) ∧ Binds X.K fd fn.P [] ∧ ∀ q ∈ fn.kw, KwOk X.K fd fn.P q.1 q.2.1 q.2.2
structure Ok (c : Cs) (F : Fns) (G : List D) (X : Cx) : Prop where
  hN : X.N = c.N
  nd : X.N.Nodup
  sc : X.env.scope = c.sc
  fn : X.fn = c.fn
  calm : X.calm = true
  call : CallOk c.T F X
  blt : ∀ x ∈ c.bs, X.mg x = none
  glo : ∀ (i : Nat) (x : Str) (d : D), c.gn[i]? = some x → G[i]? = some d → ∃ v u, X.mg x = some u ∧ L2.RelV v u ∧ ∀ J H, RD X.K J H d v
  exc : ∀ x ∈ c.xs, ∃ C, X.mg x = some (.ref C) ∧ PySem.W.excIn X.K C He.veBase "ValueError.__new__" = true ∧ PySem.W.keepIn X.K (.ref C) = true ∧ Raises X (.ref C)
  exm : XF X.K X.mg c.xm
def Cs.vis (c : Cs) (i : Nat) (x : Str) : Bool :=
  decide (c.N[i]? = some x) && (match c.sc.names.lookup x with | some .local => true | some .cell => true | some .free => true | _ => false) && !(x == ("__debug__" : Str)) && !(x == ("__classdict__" : Str))
def Cs.loc (c : Cs) (i : Nat) (x : Str) : Bool :=
  decide (c.N[i]? = some x) && (match c.sc.names.lookup x with | some .local => true | some .cell => c.fn x | _ => false)
def Cs.glb (c : Cs) (x : Str) : Bool :=
  (match c.sc.names.lookup x with | some .globalImplicit => true | _ => false) && !(x == ("__debug__" : Str))
section
variable {c : Cs} {F : Fns} {G : List D} {X : Cx}
theorem Ok.units (o : Ok c F G X) : X.A.units + 200 < cLine := by
  obtain ⟨k, hr, _, _⟩ := o.call.ok
  have := hr.un; omega
theorem Ok.guards (o : Ok c F G X) : X.A.guards = some [] := by
  obtain ⟨k, _, h, _⟩ := o.call.ok
  exact h
theorem vis_ok (o : Ok c F G X) {i : Nat} {x : Str} (h : c.vis i x = true) : X.N[i]? = some x ∧ Vis X.env.scope x ∧ (x == ("__debug__" : Str)) = false ∧ (x == ("__classdict__" : Str)) = false := by
  simp only [Cs.vis, Bool.and_eq_true, decide_eq_true_eq, Bool.not_eq_true'] at h
  (obtain ⟨⟨⟨h1, h2⟩, h3⟩, h4⟩ := h)
  refine ⟨by rw [o.hN]; exact h1, ?_, h3, h4⟩
  unfold Vis
  rw [o.sc]
  split at h2
  · exact .inl (by assumption)
  · exact .inr (.inl (by assumption))
  · exact .inr (.inr (by assumption))
  · cases h2
theorem loc_ok (o : Ok c F G X) {i : Nat} {x : Str} (h : c.loc i x = true) : X.N[i]? = some x ∧ L2.Loc X.env.scope x ∧ (X.fn x = true ∨ X.env.scope.names.lookup x = some .local) := by
  simp only [Cs.loc, Bool.and_eq_true, decide_eq_true_eq] at h
  obtain ⟨h1, h2⟩ := h
  refine ⟨by rw [o.hN]; exact h1, ?_, ?_⟩
  · unfold L2.Loc
    rw [o.sc]
    split at h2
    · exact .inl (by assumption)
    · exact .inr (by assumption)
    · cases h2
  · rw [o.sc, o.fn]
    split at h2
    · exact .inr (by assumption)
    · exact .inl h2
    · cases h2
theorem glb_ok (o : Ok c F G X) {x : Str} (h : c.glb x = true) : Gl X x ∧ (x == ("__debug__" : Str)) = false := by
  simp only [Cs.glb, Bool.and_eq_true, Bool.not_eq_true'] at h
  refine ⟨?_, h.2⟩
  have h1 := h.1
  unfold Gl PySem.Env.kindOf
  rw [o.sc]
  split at h1
  · assumption
  · cases h1
end

/-! ### what a piece's proof gives -/
structure SE (X : Cx) (e : Expr) (p : P) : Prop where
  v : PE X e (tG X.K (rD X.K) p.v)
  t : PT X e (tG X.K rB p.t)
structure SEs (X : Cx) (es : List Expr) (p : PL) : Prop where
  l : PA X es (tG X.K (rDs X.K) p.l)
  nil : p.nil = es.isEmpty
  kw : ∀ kws : List Keyword, kws.map (·.value) = es → PK X kws (tG X.K (rDs X.K) p.l)
  an : ∀ pos, PE X (.BoolOp .And es pos) (tG X.K (rD X.K) p.an)
  on : ∀ pos, PE X (.BoolOp .Or es pos) (tG X.K (rD X.K) p.on)
  at_ : ∀ pos, PW X (.BoolOp .And es pos) (tG X.K rB p.at_)
  ot : ∀ pos, PW X (.BoolOp .Or es pos) (tG X.K rB p.ot)
section
variable {X : Cx} {e x a b : Expr} {p pa pb pc : P} {pos : Pos}
theorem tru_rel {K : PySem.W.Frag} {J : Jn} {h : Hh} {H : Hp} {d : D} {v : V} {b : Bool} (rh : RH K J h H) (r : RD K J H d v) (e : d.tru h = some b) : TruV K v H b := by
  cases d with
  | non => cases r; cases e; rfl
  | bl c => cases r; cases e; rfl
  | int i => cases r; cases e; rfl
  | str y =>
    cases r
    simp only [D.tru] at e
    split at e
    · rename_i hz; cases e; exact ⟨hz, rfl⟩
    · cases e
  | ftup xs => cases e
  | exc c => cases e
  | exf c f d => cases e
  | tup xs =>
    cases e
    obtain ⟨a, vs, rfl, hq, z, rr⟩ := r.tup_inv
    refine .inr (.inl ⟨vs, hq, ?_⟩)
    cases rr <;> rfl
  | lst xs =>
    cases e
    obtain ⟨a, vs, rfl, hq, z, rr⟩ := res_inv rh rfl r
    refine .inl ⟨vs, hq, ?_⟩
    cases rr <;> rfl
  | fz xs =>
    cases e
    obtain ⟨a, vs, rfl, hq, z, rr⟩ := res_inv rh rfl r
    refine .inl ⟨vs, hq, ?_⟩
    cases rr <;> rfl
  | ref i =>
    cases r with
    | ref q =>
      obtain ⟨o, u, h1, h2, h3⟩ := rh.at q
      simp only [D.tru, h1] at e
      cases h3 with
      | lst z rr => cases e; refine .inl ⟨_, .inl (.inl h2), ?_⟩; cases rr <;> rfl
      | dct z rr => cases e; refine .inr (.inr ⟨_, h2, ?_⟩); cases rr <;> rfl
/-- an expression whose test is its value's truth -/
theorem SE.plain {v : Env → Hh → R D} (hv : PE X x (tG X.K (rD X.K) v)) (he : ∀ whole, isTrue x X.env whole = (do let v ← whole; standAt x.pos; holding [v] (truthy v))) : SE X x (.plain v) := by
  refine ⟨hv, (pt_truth hv he).imp fun σ H Q ⟨ρ, h, J, re, rh, q⟩ => ?_⟩
  refine (Post.step (R1 := rD X.K) (f := v) re rh q).mono fun y H1 ⟨J1, h1, d, e1, re1, rh1, rd, q1⟩ => ?_
  obtain ⟨b, hb, q2⟩ := Post.opt rh1 q1
  exact ⟨b, tru_rel rh1 rd hb, q2 b rfl⟩
theorem SE.ofB {v : Env → Hh → R D} {t : Env → Hh → R Bool} (hv : PE X x (tG X.K (rD X.K) v)) (ht : PT X x (tG X.K rB t)) : SE X x ⟨v, t⟩ := ⟨hv, ht⟩

theorem se_var {i : Nat} {y : Str} {c : Cs} {F : Fns} {G : List D} (o : Ok c F G X) (h : c.vis i y = true) : SE X (.Name y pos) (evE F G (.var i)) := by
  obtain ⟨h1, h2, h3, h4⟩ := vis_ok o h
  refine SE.plain ((pe_var h1 h2 h3 h4).imp fun σ H Q ⟨ρ, hh, J, re, rh, q⟩ => ?_) (fun _ => rfl)
  cases e : ρ[i]? with
  | none => simp only [e] at q; exact False.elim q
  | some od =>
    cases od with
    | none => simp only [e] at q; exact False.elim q
    | some d =>
      simp only [e] at q
      obtain ⟨v, hv, rd⟩ := re.get i d e
      exact ⟨v, hv, q J H v Ext.refl rh rd⟩
def conM : D → Const → Bool
  | .non, .none => true
  | .bl a, .bool b => a == b
  | .int i, .int j => decide (i = j)
  | .str a, .str b => decide (a = b)
  | _, _ => false
theorem se_con {d : D} {k : Const} {n : Nat} {F : Fns} {G : List D} (h : conM d k = true) : SE X (.Constant k n pos) (evE F G (.con d)) := by
  refine SE.plain ?_ (fun _ => rfl)
  unfold conM at h
  split at h
  · exact pe_non.imp fun σ H Q ⟨ρ, hh, J, re, rh, q⟩ => q J H _ Ext.refl rh .non
  · have := beq_iff_eq.mp h; subst this
    exact pe_bl.imp fun σ H Q ⟨ρ, hh, J, re, rh, q⟩ => q J H _ Ext.refl rh (.bl _)
  · have := of_decide_eq_true h; subst this
    exact pe_int.imp fun σ H Q ⟨ρ, hh, J, re, rh, q⟩ => q J H _ Ext.refl rh (.int _)
  · have := of_decide_eq_true h; subst this
    exact pe_str.imp fun σ H Q ⟨ρ, hh, J, re, rh, q⟩ => q J H _ Ext.refl rh (.str _)
  · cases h
theorem se_glo {i : Nat} {y : Str} {c : Cs} {F : Fns} {G : List D} (o : Ok c F G X) (h : c.gn[i]? = some y) (hg : c.glb y = true) : SE X (.Name y pos) (evE F G (.glo i)) := by
  obtain ⟨h1, h2⟩ := glb_ok o hg
  refine SE.plain ?_ (fun _ => rfl)
  cases e : G[i]? with
  | none => exact ⟨fun pins s σ H Q I ⟨ρ, hh, J, re, rh, q⟩ => by exact False.elim q⟩
  | some d =>
    obtain ⟨v, u, hm, rv, rd⟩ := o.glo i y d h e
    exact (pe_glob h1 hm rv h2).imp fun σ H Q ⟨ρ, hh, J, re, rh, q⟩ => by
      exact q J H v Ext.refl rh (rd J H)

/-! ### operators -/
theorem se_bin' {op : Operator} {f : Hh → D → D → Option D} (ho : OpR X (binaryOp op) (rOp X.K f)) (ha : SE X a pa) (hb : SE X b pb) :
    SE X (.BinOp a op b pos) (.plain fun ρ h => (pa.v ρ h).bind fun x h1 => (pb.v ρ h1).bind fun y h2 => R.opt (f h2 x y) h2) := by
  refine SE.plain ((pe_op ho ha.v hb.v).imp fun σ H Q ⟨ρ, h, J, re, rh, q⟩ => ?_) (fun _ => rfl)
  refine (Post.step (R1 := rD X.K) (f := pa.v) re rh q).mono fun x H1 ⟨J1, h1, dx, e1, re1, rh1, rx, q1⟩ => ?_
  refine (Post.step (R1 := rD X.K) (f := pb.v) re1 rh1 q1).mono fun y H2 ⟨J2, h2, dy, e2, re2, rh2, ry, q2⟩ => ?_
  obtain ⟨d, hd, q3⟩ := Post.optX q2
  exact ⟨J2, h2, dx, dy, d, rh2, rx.ext e2, ry, hd, q3⟩
def bopM : BOp → Operator → Bool
  | .add, .Add => true
  | .sub, .Sub => true
  | .mul, .Mult => true
  | .fdiv, .FloorDiv => true
  | .mod, .Mod => true
  | .pow, .Pow => true
  | _, _ => false
theorem bopM_ok {o : BOp} {p : Operator} (h : bopM o p = true) : OpR X (binaryOp p) (rOp X.K (opBin o)) := by
  unfold bopM at h
  split at h
  · exact ops_add
  · exact ops_sub
  · exact ops_mul
  · exact ops_fdiv
  · exact ops_mod
  · exact ops_pow
  · cases h
def copM : COp → CmpOp → Bool
  | .eq, .Eq => true
  | .ne, .NotEq => true
  | .lt, .Lt => true
  | .le, .LtE => true
  | .gt, .Gt => true
  | .ge, .GtE => true
  | .inn, .In => true
  | .nin, .NotIn => true
  | .is, .Is => true
  | .isn, .IsNot => true
  | _, _ => false
theorem copM_ok (hu : X.A.units + 200 < cLine) {o : COp} {p : CmpOp} (h : copM o p = true) : OpR X (compareOp p) (rCmp X.K (opCmp o)) := by
  unfold copM at h
  split at h
  · exact ops_eq (by omega)
  · exact ops_ne (by omega)
  · exact ops_lt
  · exact ops_le
  · exact ops_gt
  · exact ops_ge
  · exact ops_in (by omega)
  · exact ops_nin (by omega)
  · exact ops_is
  · exact ops_isn
  · cases h
/-- a test that is known as a value -/
theorem pt_ofV {e : Expr} {r : TE} (h : PT X e (tTest r)) {t : L2.St → Hp → (Bool → Hp → Prop) → Prop} (i : ∀ σ H Q, t σ H Q → r σ H fun x H' => ∃ k, x = .bl k ∧ Q k H') : PT X e t := h.imp i
theorem se_cmp' {op : CmpOp} {f : Hh → D → D → Option Bool} (ho : OpR X (compareOp op) (rCmp X.K f)) (hp : plainX b = true) (ha : SE X a pa) (hb : SE X b pb) :
    SE X (.Compare a [op] [b] pos) (.plain fun ρ h => (pa.v ρ h).bind fun x h1 => (pb.v ρ h1).bind fun y h2 => R.opt ((f h2 x y).map D.bl) h2) := by
  have core : ∀ {σ : L2.St} {H : Hp} {ρ : Env} {h : Hh} {J : Jn} {Q : V → Hp → Prop} {α β : Type} {Rl : RelA α β} {g : D → Hh → R α} {Q' : β → Hp → Prop}, RE X.K J H ρ σ → RH X.K J h H →
      Post X.K J H Rl (((pa.v ρ h).bind fun x h1 => (pb.v ρ h1).bind fun y h2 => R.opt ((f h2 x y).map D.bl) h2).bind g) Q' →
      (∀ (k : Bool) (H' : Hp) (J' : Jn) (h' : Hh), RE X.K J' H' ρ σ → RH X.K J' h' H' → Post X.K J' H' Rl (g (.bl k) h') Q' → Q (.bl k) H') →
      tOp (rCmp X.K f) (tG X.K (rD X.K) pa.v) (tG X.K (rD X.K) pb.v) σ H Q := by
    intro σ H ρ h J Q α β Rl g Q' re rh q fin
    simp only [R.bind_assoc] at q
    refine (Post.step (R1 := rD X.K) (f := pa.v) re rh q).mono fun x H1 ⟨J1, h1, dx, e1, re1, rh1, rx, q1⟩ => ?_
    refine (Post.step (R1 := rD X.K) (f := pb.v) re1 rh1 q1).mono fun y H2 ⟨J2, h2, dy, e2, re2, rh2, ry, q2⟩ => ?_
    cases hd : f h2 dx dy with
    | none => rw [hd] at q2; exact False.elim q2
    | some k => rw [hd] at q2; exact ⟨J2, h2, dx, dy, k, rh2, rx.ext e2, ry, hd, fin k H2 J2 h2 re2 rh2 q2⟩
  refine ⟨(pe_cmpR ho ha.v hb.v (plain_mark hp _)).imp fun σ H Q ⟨ρ, h, J, re, rh, q⟩ => ?_, (pt_cmpR ho ha.v hb.v (plain_mark hp _)).imp fun σ H Q ⟨ρ, h, J, re, rh, q⟩ => ?_⟩
  · have as2 : ∀ r : R D, r = r.bind fun x h => .ok x h := fun r => by cases r <;> rfl
    dsimp only [P.plain] at q
    rw [as2 ((pa.v ρ h).bind _)] at q
    exact core re rh q fun k H' J' h' _ rh' q' => q' J' H' _ Ext.refl rh' (.bl k)
  · exact core re rh q fun k H' J' h' _ rh' q' => ⟨k, rfl, q' J' H' k Ext.refl rh' rfl⟩
end
end PV
end

section
set_option maxRecDepth 100000
namespace PV
open L2 PySem PySem.Spec PyProof.Rows
section
variable {X : Cx} {e x a b : Expr} {p pa pb pc : P} {pos : Pos}

/-! ### chains -/
theorem se_chain {op op' : CmpOp} {f f' : Hh → D → D → Option Bool} {c : Expr} (ho : OpR X (compareOp op) (rCmp X.K f)) (ho' : OpR X (compareOp op') (rCmp X.K f')) (hp : plainX c = true) (ha : SE X a pa) (hb : SE X b pb) (hc : SE X c pc) :
    SE X (.Compare a [op, op'] [b, c] pos) (.plain fun ρ h => (pa.v ρ h).bind fun x h1 => (pb.v ρ h1).bind fun y h2 => (R.opt (f h2 x y) h2).bind fun t h3 =>
      if t then (pc.v ρ h3).bind fun z h4 => R.opt ((f' h4 y z).map D.bl) h4 else .ok (.bl false) h3) := by
  have core : ∀ {σ : L2.St} {H : Hp} {ρ : Env} {h : Hh} {J : Jn} {Q : V → Hp → Prop} {α β : Type} {Rl : RelA α β} {g : D → Hh → R α} {Q' : β → Hp → Prop}, RE X.K J H ρ σ → RH X.K J h H →
      Post X.K J H Rl (((pa.v ρ h).bind fun x h1 => (pb.v ρ h1).bind fun y h2 => (R.opt (f h2 x y) h2).bind fun t h3 =>
      if t then (pc.v ρ h3).bind fun z h4 => R.opt ((f' h4 y z).map D.bl) h4 else .ok (.bl false) h3).bind g) Q' →
      (∀ (k : Bool) (H' : Hp) (J' : Jn) (h' : Hh), RE X.K J' H' ρ σ → RH X.K J' h' H' → Post X.K J' H' Rl (g (.bl k) h') Q' → Q (.bl k) H') →
      tChain (rCmp X.K f) (rCmp X.K f') (tG X.K (rD X.K) pa.v) (tG X.K (rD X.K) pb.v) (tG X.K (rD X.K) pc.v) σ H Q := by
    intro σ H ρ h J Q α β Rl g Q' re rh q fin
    simp only [R.bind_assoc] at q
    refine (Post.step (R1 := rD X.K) (f := pa.v) re rh q).mono fun x H1 ⟨J1, h1, dx, e1, re1, rh1, rx, q1⟩ => ?_
    refine (Post.step (R1 := rD X.K) (f := pb.v) re1 rh1 q1).mono fun y H2 ⟨J2, h2, dy, e2, re2, rh2, ry, q2⟩ => ?_
    cases hd : f h2 dx dy with
    | none => rw [hd] at q2; exact False.elim q2
    | some k =>
      rw [hd] at q2
      refine ⟨J2, h2, dx, dy, k, rh2, rx.ext e2, ry, hd, k, rfl, ?_⟩
      cases k with
      | false => exact fin false H2 J2 h2 re2 rh2 q2
      | true =>
        simp only [R.opt_some, R.bind_ok, if_true, R.bind_assoc] at q2 ⊢
        refine (Post.step (R1 := rD X.K) (f := pc.v) re2 rh2 q2).mono fun z H3 ⟨J3, h3, dz, e3, re3, rh3, rz, q3⟩ => ?_
        cases hd' : f' h3 dy dz with
        | none => rw [hd'] at q3; exact False.elim q3
        | some k' => rw [hd'] at q3; exact ⟨J3, h3, dy, dz, k', rh3, ry.ext e3, rz, hd', fin k' H3 J3 h3 re3 rh3 q3⟩
  have hm : lastMarks [op, op'] [b, c] = false := plain_mark hp _
  refine ⟨(pe_chain ho ho' ha.v hb.v hc.v hm).imp fun σ H Q ⟨ρ, h, J, re, rh, q⟩ => ?_, (pt_chain ho ho' ha.v hb.v hc.v hm).imp fun σ H Q ⟨ρ, h, J, re, rh, q⟩ => ?_⟩
  · have as2 : ∀ r : R D, r = r.bind fun x h => .ok x h := fun r => by cases r <;> rfl
    dsimp only [P.plain] at q
    rw [as2 ((pa.v ρ h).bind _)] at q
    exact core re rh q fun k H' J' h' _ rh' q' => q' J' H' _ Ext.refl rh' (.bl k)
  · exact core re rh q fun k H' J' h' _ rh' q' => ⟨k, rfl, q' J' H' k Ext.refl rh' rfl⟩

/-! ### and, or, not -/
theorem vBl_inv {α β : Type} {Rl : RelA α β} {J : Jn} {H : Hp} {d : D} {v : V} {h : Hh} {g : Bool → Hh → R α} {Q : β → Hp → Prop} (r : RD X.K J H d v) (q : Post X.K J H Rl ((vBl d h).bind g) Q) : ∃ t, v = .bl t ∧ Post X.K J H Rl (g t h) Q := by
  cases d with
  | bl t => exact ⟨t, r.bl_inv, q⟩
  | _ => exact False.elim q
theorem isEmpty_cons_false {es : List Expr} (h : es.isEmpty = false) : ∃ b r, es = b :: r := by
  cases es with
  | nil => cases h
  | cons b r => exact ⟨b, r, rfl⟩
theorem ses_nil : SEs X [] ⟨true, fun _ h => .ok [] h, fun _ _ => .bad, fun _ _ => .bad, fun _ _ => .bad, fun _ _ => .bad⟩ where
  l := pa_nil.imp fun σ H Q ⟨ρ, h, J, re, rh, q⟩ => q J H [] Ext.refl rh .nil
  nil := rfl
  kw := fun kws e => by
    cases kws with
    | nil => exact ⟨fun pos pins s σ H Q I ⟨ρ, h, J, re, rh, q⟩ => pk_nil.run pos pins s σ H Q I (q J H [] Ext.refl rh .nil)⟩
    | cons _ _ => cases e
  an := fun _ => ⟨fun _ _ _ _ _ _ ⟨_, _, _, _, _, q⟩ => False.elim q⟩
  on := fun _ => ⟨fun _ _ _ _ _ _ ⟨_, _, _, _, _, q⟩ => False.elim q⟩
  at_ := fun _ => ⟨fun _ _ _ _ _ _ _ ⟨_, _, _, _, _, q⟩ => False.elim q⟩
  ot := fun _ => ⟨fun _ _ _ _ _ _ _ ⟨_, _, _, _, _, q⟩ => False.elim q⟩
/-- and, of one and more -/
theorem pe_andV {es : List Expr} {pl : PL} (ha : SE X a pa) (hl : SEs X es pl) (hn : es.isEmpty = false) :
    PE X (.BoolOp .And (a :: es) pos) (tG X.K (rD X.K) fun ρ h => (pa.v ρ h).bind fun x h1 => (vBl x h1).bind fun t h2 => if t then pl.an ρ h2 else .ok (.bl false) h2) := by
  obtain ⟨b, r, rfl⟩ := isEmpty_cons_false hn
  refine (pe_and ha.v (hl.an pos)).imp fun σ H Q ⟨ρ, h, J, re, rh, q⟩ => ?_
  refine (Post.step (R1 := rD X.K) (f := pa.v) re rh q).mono fun x H1 ⟨J1, h1, dx, e1, re1, rh1, rx, q1⟩ => ?_
  obtain ⟨t, rfl, q2⟩ := vBl_inv rx q1
  refine ⟨t, rfl, ?_⟩
  cases t with
  | true => exact ⟨ρ, h1, J1, re1, rh1, q2⟩
  | false => exact q2 J1 H1 _ Ext.refl rh1 (.bl false)
theorem pe_orV {es : List Expr} {pl : PL} (ha : SE X a pa) (hl : SEs X es pl) (hn : es.isEmpty = false) :
    PE X (.BoolOp .Or (a :: es) pos) (tG X.K (rD X.K) fun ρ h => (pa.v ρ h).bind fun x h1 => (vBl x h1).bind fun t h2 => if t then .ok (.bl true) h2 else pl.on ρ h2) := by
  obtain ⟨b, r, rfl⟩ := isEmpty_cons_false hn
  refine (pe_or ha.v (hl.on pos)).imp fun σ H Q ⟨ρ, h, J, re, rh, q⟩ => ?_
  refine (Post.step (R1 := rD X.K) (f := pa.v) re rh q).mono fun x H1 ⟨J1, h1, dx, e1, re1, rh1, rx, q1⟩ => ?_
  obtain ⟨t, rfl, q2⟩ := vBl_inv rx q1
  refine ⟨t, rfl, ?_⟩
  cases t with
  | false => exact ⟨ρ, h1, J1, re1, rh1, q2⟩
  | true => exact q2 J1 H1 _ Ext.refl rh1 (.bl true)
theorem pw_andV {es : List Expr} {pl : PL} (ha : SE X a pa) (hl : SEs X es pl) (hn : es.isEmpty = false) :
    PW X (.BoolOp .And (a :: es) pos) (tG X.K rB fun ρ h => (pa.t ρ h).bind fun t h1 => if t then pl.at_ ρ h1 else .ok false h1) := by
  obtain ⟨b, r, rfl⟩ := isEmpty_cons_false hn
  refine (pw_and ha.t (hl.at_ pos)).imp fun σ H Q ⟨ρ, h, J, re, rh, q⟩ => ?_
  refine (Post.step (R1 := rB) (f := pa.t) re rh q).mono fun x H1 ⟨J1, h1, t, e1, re1, rh1, rx, q1⟩ => ?_
  have rx : t = x := rx
  subst rx
  cases t with
  | true => exact ⟨ρ, h1, J1, re1, rh1, q1⟩
  | false => exact q1 J1 H1 _ Ext.refl rh1 rfl
theorem pw_orV {es : List Expr} {pl : PL} (ha : SE X a pa) (hl : SEs X es pl) (hn : es.isEmpty = false) :
    PW X (.BoolOp .Or (a :: es) pos) (tG X.K rB fun ρ h => (pa.t ρ h).bind fun t h1 => if t then .ok true h1 else pl.ot ρ h1) := by
  obtain ⟨b, r, rfl⟩ := isEmpty_cons_false hn
  refine (pw_or ha.t (hl.ot pos)).imp fun σ H Q ⟨ρ, h, J, re, rh, q⟩ => ?_
  refine (Post.step (R1 := rB) (f := pa.t) re rh q).mono fun x H1 ⟨J1, h1, t, e1, re1, rh1, rx, q1⟩ => ?_
  have rx : t = x := rx
  subst rx
  cases t with
  | false => exact ⟨ρ, h1, J1, re1, rh1, q1⟩
  | true => exact q1 J1 H1 _ Ext.refl rh1 rfl
theorem ses_cons {es : List Expr} {pl : PL} (hp : plainX a = true) (ha : SE X a pa) (hl : SEs X es pl) : SEs X (a :: es) ⟨false,
      fun ρ h => (pa.v ρ h).bind fun x h1 => (pl.l ρ h1).bind fun xs h2 => .ok (x :: xs) h2,
      fun ρ h => if pl.nil then pa.v ρ h else (pa.v ρ h).bind fun x h1 => (vBl x h1).bind fun t h2 => if t then pl.an ρ h2 else .ok (.bl false) h2,
      fun ρ h => if pl.nil then pa.v ρ h else (pa.v ρ h).bind fun x h1 => (vBl x h1).bind fun t h2 => if t then .ok (.bl true) h2 else pl.on ρ h2,
      fun ρ h => if pl.nil then pa.t ρ h else (pa.t ρ h).bind fun t h1 => if t then pl.at_ ρ h1 else .ok false h1,
      fun ρ h => if pl.nil then pa.t ρ h else (pa.t ρ h).bind fun t h1 => if t then .ok true h1 else pl.ot ρ h1⟩ := by
  refine ⟨(pa_cons ha.v hl.l (plain_star hp _ _)).imp fun σ H Q ⟨ρ, h, J, re, rh, q⟩ => ?_, rfl, fun kws ek => ?_, fun pos => ?_, fun pos => ?_, fun pos => ?_, fun pos => ?_⟩
  · refine (Post.step (R1 := rD X.K) (f := pa.v) re rh q).mono fun x H1 ⟨J1, h1, dx, e1, re1, rh1, rx, q1⟩ => ?_
    refine (Post.step (R1 := rDs X.K) (f := pl.l) re1 rh1 q1).mono fun xs H2 ⟨J2, h2, ds, e2, re2, rh2, rs, q2⟩ => ?_
    exact q2 J2 H2 _ Ext.refl rh2 (.cons (rx.ext e2) rs)
  · cases kws with
    | nil => cases ek
    | cons k kws =>
      obtain ⟨nm, e, kp⟩ := k
      simp only [List.map_cons, List.cons.injEq] at ek
      obtain ⟨rfl, ek⟩ := ek
      refine ⟨fun pos pins s σ H Q I ⟨ρ, h, J, re, rh, q⟩ => (pk_cons ha.v (hl.kw kws ek)).run pos pins s σ H Q I ?_⟩
      refine (Post.step (R1 := rD X.K) (f := pa.v) re rh q).mono fun x H1 ⟨J1, h1, dx, e1, re1, rh1, rx, q1⟩ => ?_
      refine (Post.step (R1 := rDs X.K) (f := pl.l) re1 rh1 q1).mono fun xs H2 ⟨J2, h2, ds, e2, re2, rh2, rs, q2⟩ => ?_
      exact q2 J2 H2 _ Ext.refl rh2 (.cons (rx.ext e2) rs)
  all_goals
    cases hn : es.isEmpty with
    | true =>
      have he : es = [] := by cases es with | nil => rfl | cons _ _ => cases hn
      subst he
      simp only [hl.nil, hn, if_true]
      first | exact pe_one ha.v | exact pw_and1 ha.t | exact pw_or1 ha.t
    | false =>
      simp only [hl.nil, hn, Bool.false_eq_true, if_false]
      first | exact pe_andV ha hl hn | exact pe_orV ha hl hn | exact pw_andV ha hl hn | exact pw_orV ha hl hn
theorem se_and {es : List Expr} {pl : PL} (ha : SE X a pa) (hl : SEs X es pl) (hn : es.isEmpty = false) : SE X (.BoolOp .And (a :: es) pos) ⟨fun ρ h => (pa.v ρ h).bind fun x h1 => (vBl x h1).bind fun t h2 => if t then pl.an ρ h2 else .ok (.bl false) h2,
    fun ρ h => (pa.t ρ h).bind fun t h1 => if t then pl.at_ ρ h1 else .ok false h1⟩ := ⟨pe_andV ha hl hn, (pw_andV ha hl hn).pt⟩
theorem se_or {es : List Expr} {pl : PL} (ha : SE X a pa) (hl : SEs X es pl) (hn : es.isEmpty = false) : SE X (.BoolOp .Or (a :: es) pos) ⟨fun ρ h => (pa.v ρ h).bind fun x h1 => (vBl x h1).bind fun t h2 => if t then .ok (.bl true) h2 else pl.on ρ h2,
    fun ρ h => (pa.t ρ h).bind fun t h1 => if t then .ok true h1 else pl.ot ρ h1⟩ := ⟨pe_orV ha hl hn, (pw_orV ha hl hn).pt⟩
theorem se_not (ha : SE X a pa) : SE X (.UnaryOp .Not a pos) ⟨fun ρ h => (pa.v ρ h).bind fun x h1 => (vBl x h1).bind fun t h2 => .ok (.bl (!t)) h2, fun ρ h => (pa.t ρ h).bind fun t h1 => .ok (!t) h1⟩ := by
  refine ⟨(pe_not ha.v).imp fun σ H Q ⟨ρ, h, J, re, rh, q⟩ => ?_, (pt_not ha.t).imp fun σ H Q ⟨ρ, h, J, re, rh, q⟩ => ?_⟩
  · refine (Post.step (R1 := rD X.K) (f := pa.v) re rh q).mono fun x H1 ⟨J1, h1, dx, e1, re1, rh1, rx, q1⟩ => ?_
    obtain ⟨t, rfl, q2⟩ := vBl_inv rx q1
    exact ⟨t, rfl, q2 J1 H1 _ Ext.refl rh1 (.bl _)⟩
  · refine (Post.step (R1 := rB) (f := pa.t) re rh q).mono fun x H1 ⟨J1, h1, t, e1, re1, rh1, rx, q1⟩ => ?_
    cases rx
    exact q1 J1 H1 _ Ext.refl rh1 rfl
theorem se_neg (ha : SE X a pa) : SE X (.UnaryOp .USub a pos) (.plain fun ρ h => (pa.v ρ h).bind fun x h1 => R.opt (x.isInt.map fun i => .int (-i)) h1) := by
  refine SE.plain ((pe_un un_neg ha.v).imp fun σ H Q ⟨ρ, h, J, re, rh, q⟩ => ?_) (fun _ => rfl)
  refine (Post.step (R1 := rD X.K) (f := pa.v) re rh q).mono fun x H1 ⟨J1, h1, dx, e1, re1, rh1, rx, q1⟩ => ?_
  cases dx with
  | int i => exact ⟨i, rx.int_inv, q1 J1 H1 _ Ext.refl rh1 (.int _)⟩
  | _ => exact False.elim q1
theorem isTrue_if {c : Expr} {M : Model} {A : Around} {E : Value → Shared → Prop} {s : Shared} {env : PySem.Env} {whole : Sem Value} {Q : Bool → Shared → Prop}
    (h : wpAny M A (isTrue c env (eval c env)) (fun t s' => if t = true then wpAny M A (isTrue a env (eval a env)) Q E s' else wpAny M A (isTrue b env (eval b env)) Q E s') E s) : wpAny M A (isTrue (.IfExp c a b pos) env whole) Q E s := by
  show wpAny M A (do if ← isTrue c env (eval c env) then isTrue a env (eval a env) else isTrue b env (eval b env)) Q E s
  refine wpAny_bind (wpAny_mono h (fun t s' q => ?_) fun _ _ z => z)
  cases t with
  | true => exact q
  | false => exact q
theorem se_ite {c : Expr} (hc : SE X c pc) (ha : SE X a pa) (hb : SE X b pb) : SE X (.IfExp c a b pos) ⟨fun ρ h => (pc.t ρ h).bind fun t h1 => if t then pa.v ρ h1 else pb.v ρ h1, fun ρ h => (pc.t ρ h).bind fun t h1 => if t then pa.t ρ h1 else pb.t ρ h1⟩ := by
  refine ⟨(pe_ifExp hc.t ha.v hb.v).imp fun σ H Q ⟨ρ, h, J, re, rh, q⟩ => ?_, ⟨fun pins s σ H Q I ⟨ρ, h, J, re, rh, q⟩ => isTrue_if ?_⟩⟩
  · refine (Post.step (R1 := rB) (f := pc.t) re rh q).mono fun x H1 ⟨J1, h1, t, e1, re1, rh1, rx, q1⟩ => ?_
    have rx : t = x := rx
    subst rx
    cases t with
    | true => exact ⟨ρ, h1, J1, re1, rh1, q1⟩
    | false => exact ⟨ρ, h1, J1, re1, rh1, q1⟩
  · refine thn (hc.t.run pins s σ H _ I (Post.step (R1 := rB) (f := pc.t) re rh q)) fun t s' ⟨H1, I1, J1, h1, t', e1, re1, rh1, rx, q1⟩ => ?_
    have rx : t' = t := rx
    subst rx
    cases t' with
    | true => exact ha.t.run pins s' σ H1 Q I1 ⟨ρ, h1, J1, re1, rh1, q1⟩
    | false => exact hb.t.run pins s' σ H1 Q I1 ⟨ρ, h1, J1, re1, rh1, q1⟩

/-! ### subscripts, slices, displays -/
theorem se_idx (hu : X.A.units + 200 < cLine) (hp : plainX b = true) (ha : SE X a pa) (hb : SE X b pb) : SE X (.Subscript a b pos) (.plain fun ρ h => (pa.v ρ h).bind fun x h1 => (pb.v ρ h1).bind fun y h2 => R.opt (opIdx h2 x y) h2) := by
  refine SE.plain ((pe_ix (ix_all (by omega)) ha.v hb.v (plain_ix hp)).imp fun σ H Q ⟨ρ, h, J, re, rh, q⟩ => ?_) (fun _ => rfl)
  refine (Post.step (R1 := rD X.K) (f := pa.v) re rh q).mono fun x H1 ⟨J1, h1, dx, e1, re1, rh1, rx, q1⟩ => ?_
  refine (Post.step (R1 := rD X.K) (f := pb.v) re1 rh1 q1).mono fun y H2 ⟨J2, h2, dy, e2, re2, rh2, ry, q2⟩ => ?_
  obtain ⟨d, hd, q3⟩ := Post.optX q2
  exact ⟨J2, h2, dx, dy, d, rh2, rx.ext e2, ry, hd, q3⟩
abbrev rO : RelA (Option Int) (Option Int) := fun _ _ a b => a = b
theorem so_none {pl : P} : PO X none (tG X.K rO (vPart true pl)) :=
  ⟨fun pins s σ H Q I ⟨ρ, h, J, re, rh, q⟩ => po_none.run pins s σ H Q I (q J H none Ext.refl rh rfl)⟩
theorem so_some (ha : SE X a pa) : PO X (some a) (tG X.K rO (vPart false pa)) := by
  refine ⟨fun pins s σ H Q I ⟨ρ, h, J, re, rh, q⟩ => (po_some ha.v).run pins s σ H Q I ?_⟩
  have q' : Post X.K J H rO ((pa.v ρ h).bind fun d h1 => R.opt (d.isInt.map some) h1) Q := q
  refine (Post.step (R1 := rD X.K) (f := pa.v) re rh q').mono fun x H1 ⟨J1, h1, d, e1, re1, rh1, rx, q1⟩ => ?_
  cases d with
  | int i => exact ⟨i, rx.int_inv, q1 J1 H1 _ Ext.refl rh1 rfl⟩
  | _ => exact False.elim q1
theorem se_slc {lo hi : Option Expr} {pl ph : P} {ml mh : Bool} {sp : Pos} (ha : SE X a pa) (hl : PO X lo (tG X.K rO (vPart ml pl))) (hh : PO X hi (tG X.K rO (vPart mh ph))) :
    SE X (.Subscript a (.Slice lo hi none sp) pos) (.plain fun ρ h => (pa.v ρ h).bind fun x h1 => (vPart ml pl ρ h1).bind fun l h2 => (vPart mh ph ρ h2).bind fun u h3 => R.opt (opSlc h3 x l u) h3) := by
  refine SE.plain ((pe_slice sl_all ha.v hl hh).imp fun σ H Q ⟨ρ, h, J, re, rh, q⟩ => ?_) (fun _ => rfl)
  refine (Post.step (R1 := rD X.K) (f := pa.v) re rh q).mono fun x H1 ⟨J1, h1, dx, e1, re1, rh1, rx, q1⟩ => ?_
  refine (Post.step (R1 := rO) (f := vPart ml pl) re1 rh1 q1).mono fun y H2 ⟨J2, h2, l, e2, re2, rh2, ry, q2⟩ => ?_
  refine (Post.step (R1 := rO) (f := vPart mh ph) re2 rh2 q2).mono fun z H3 ⟨J3, h3, u, e3, re3, rh3, rz, q3⟩ => ?_
  have ry : l = y := ry
  have rz : u = z := rz
  subst ry rz
  obtain ⟨d, hd, q4⟩ := Post.optX q3
  exact ⟨J3, h3, dx, d, rh3, (rx.ext e2).ext e3, hd, q4⟩
theorem se_tup {es : List Expr} {pl : PL} {k : Nat} (hl : SEs X es pl) : SE X (.Tuple es k pos) (.plain fun ρ h => (pl.l ρ h).bind fun xs h1 => if sizeOk xs.length then .ok (.tup xs) h1 else .bad) := by
  refine SE.plain ((pe_tup hl.l).imp fun σ H Q ⟨ρ, h, J, re, rh, q⟩ => ?_) (fun _ => rfl)
  refine (Post.step (R1 := rDs X.K) (f := pl.l) re rh q).mono fun xs H1 ⟨J1, h1, ds, e1, re1, rh1, rs, q1⟩ => ?_
  split at q1
  · rename_i hz
    have hz' : xs.length ≤ sizeLine := by rw [← rs.length]; exact size_of hz
    exact ⟨hz', fun p np => q1 _ _ _ (Ext.laid np) (rh1.laid np) (RD.newTup rh1 np rs hz')⟩
  · exact False.elim q1

/-! ### new lists -/
/-- a reading that ends in a new list -/
def tF (K : PySem.W.Frag) (v : Env → Hh → R D) : TE := fun σ H Q => ∃ ρ h J, RE K J H ρ σ ∧ RH K J h H ∧ match v ρ h with
  | .ok (.lst ds) h' => ∀ J' H' a vs, Ext J H ⟨J'.l, J.z⟩ H' → J'.z = a :: J.z → RH K J' h' H' → H' a = some (.lst vs) → vs.length ≤ sizeLine → RDs K J' H' ds vs → H a = none → Q (.ref a) H'
  | _ => False
theorem tF_of {K : PySem.W.Frag} {v : Env → Hh → R D} {σ : L2.St} {H : Hp} {Q : VK} (hl : ∀ ρ h d h', v ρ h = .ok d h' → ∃ ds, d = .lst ds) (t : tG K (rD K) v σ H Q) : tF K v σ H Q := by
  obtain ⟨ρ, h, J, re, rh, q⟩ := t
  refine ⟨ρ, h, J, re, rh, ?_⟩
  cases ev : v ρ h with
  | ok d h' =>
    rw [ev] at q
    obtain ⟨ds, rfl⟩ := hl ρ h d h' ev
    intro J' H' a vs e ez rh' ha hz rs na
    obtain ⟨l', z'⟩ := J'
    simp only at ez e
    subst ez
    exact q _ H' _ e (rh'.show_ (J := ⟨l', J.z⟩)) (.lst (rh'.apart a List.mem_cons_self) (fun z => rh.notz na z) ha hz (rs.sub (Sub.show_ (J := ⟨l', J.z⟩))))
  | bad => rw [ev] at q; exact q
  | err _ _ => rw [ev] at q; exact q
theorem tF_val {v : Env → Hh → R D} (hv : PE X e (tF X.K v)) (hl : ∀ ρ h d h', v ρ h = .ok d h' → ∃ ds, d = .lst ds) : PE X e (tG X.K (rD X.K) v) := hv.imp fun σ H Q t => tF_of hl t
theorem se_lstF {es : List Expr} {pl : PL} (hl : SEs X es pl) : PE X (.List es pos) (tF X.K fun ρ h => (pl.l ρ h).bind fun xs h1 => if sizeOk xs.length then .ok (.lst xs) h1 else .bad) := by
  refine (pe_lst hl.l).imp fun σ H Q ⟨ρ, h, J, re, rh, q⟩ => ?_
  refine ⟨ρ, h, J, re, rh, ?_⟩
  dsimp only at q
  cases ev : pl.l ρ h with
  | ok ds h1 =>
    rw [ev, R.bind_ok] at q
    split at q
    · rename_i ds' h1' heq
      split at heq
      · rename_i hz; cases heq
        intro J1 H1 vs e1 rh1 rs
        have hz' : vs.length ≤ sizeLine := by rw [← rs.length]; exact size_of hz
        refine ⟨hz', fun p np => ?_⟩
        refine q (J1.hide p) _ p vs ⟨rfl, ?_, ?_⟩ ?_ (rh1.hide np) upd_same hz' ((rs.sub (Sub.hide np)).ext (Ext.laid np)) ?_
        · exact e1.pre
        · intro a o n q; rw [upd_ne (ne_of_none (e1.keep a o n q) np)]; exact e1.keep a o n q
        · show p :: J1.z = p :: J.z; rw [e1.z]
        · cases hp : H p with
          | none => rfl
          | some u =>
            exfalso
            by_cases n : p ∈ J.l
            · obtain ⟨m, hm, _⟩ := e1.pre
              obtain ⟨u', h2⟩ := rh1.inl (a := p) (by rw [hm]; exact List.mem_append_left _ n)
              rw [np] at h2; cases h2
            · have := e1.keep p u n hp; rw [np] at this; cases this
      · cases heq
    · exact False.elim q
  | bad => rw [ev] at q; exact False.elim q
  | err _ _ => rw [ev] at q; exact False.elim q
theorem se_lst {es : List Expr} {pl : PL} (hl : SEs X es pl) : SE X (.List es pos) (.plain fun ρ h => (pl.l ρ h).bind fun xs h1 => if sizeOk xs.length then .ok (.lst xs) h1 else .bad) := by
  refine SE.plain (tF_val (se_lstF hl) fun ρ h d h' e => ?_) (fun _ => rfl)
  cases ev : pl.l ρ h with
  | ok ds h1 =>
    rw [ev, R.bind_ok] at e
    split at e
    · cases e; exact ⟨_, rfl⟩
    · cases e
  | bad => rw [ev] at e; cases e
  | err _ _ => rw [ev] at e; cases e
/-- .. that becomes an object -/
theorem tF_new {K : PySem.W.Frag} {v : Env → Hh → R D} {σ : L2.St} {H : Hp} {Q : VK} (t : tG K (rD K) (fun ρ h => (v ρ h).bind newObj) σ H Q) : tF K v σ H Q := by
  obtain ⟨ρ, h, J, re, rh, q⟩ := t
  refine ⟨ρ, h, J, re, rh, ?_⟩
  dsimp only at q
  cases ev : v ρ h with
  | ok d h' =>
    rw [ev, R.bind_ok] at q
    cases d with
    | lst ds =>
      intro J' H' a vs e ez rh' ha hz rs na
      obtain ⟨l', z'⟩ := J'
      simp only at ez e
      subst ez
      have rh2 : RH K (Jn.own ⟨l', J.z⟩ a) (h' ++ [.lst ds]) H' := rh'.own (J := ⟨l', J.z⟩) (fun z => rh.notz na z) ha (.lst hz rs)
      refine q _ H' _ (Ext.own (J' := ⟨l', J.z⟩) na e) rh2 (.ref ?_)
      show (l' ++ [a])[h'.length]? = some a
      have hl : l'.length = h'.length := rh'.len
      rw [← hl, List.getElem?_append_right (Nat.le_refl _)]; simp
    | _ => exact False.elim q
  | bad => rw [ev] at q; exact False.elim q
  | err _ _ => rw [ev] at q; exact False.elim q
theorem se_new {v : Env → Hh → R D} (hv : PE X e (tF X.K v)) (he : ∀ whole, isTrue e X.env whole = (do let v ← whole; standAt e.pos; holding [v] (truthy v))) : SE X e (.plain fun ρ h => (v ρ h).bind newObj) :=
  SE.plain (hv.imp fun σ H Q t => tF_new t) he
end
end PV
end

section
set_option maxRecDepth 100000
namespace PV
open L2 PySem PySem.Spec PyProof.Rows
mutual
theorem same_eq : ∀ x y : D, D.same x y = true → x = y
  | .non, y, h => by cases y <;> simp [D.same] at h; rfl
  | .bl a, y, h => by cases y <;> simp [D.same] at h; rw [h]
  | .int a, y, h => by cases y <;> simp [D.same] at h; rw [h]
  | .str a, y, h => by cases y <;> simp [D.same] at h; rw [h]
  | .ref a, y, h => by cases y <;> simp [D.same] at h; rw [h]
  | .tup a, y, h => by
    cases y with
    | tup b => simp only [D.same] at h; rw [sames_eq a b h]
    | _ => simp [D.same] at h
  | .lst a, y, h => by
    cases y with
    | lst b => simp only [D.same] at h; rw [sames_eq a b h]
    | _ => simp [D.same] at h
  | .ftup a, y, h => by cases y <;> simp [D.same] at h
  | .fz a, y, h => by
    cases y with
    | fz b => simp only [D.same] at h; rw [sames_eq a b h]
    | _ => simp [D.same] at h
theorem sames_eq : ∀ xs ys : List D, D.sames xs ys = true → xs = ys
  | [], [], _ => rfl
  | [], _ :: _, h => by simp [D.sames] at h
  | _ :: _, [], h => by simp [D.sames] at h
  | x :: xs, y :: ys, h => by
    simp only [D.sames, Bool.and_eq_true] at h
    rw [same_eq x y h.1, sames_eq xs ys h.2]
end
theorem Ext.sub {J J' : Jn} {H H' : Hp} (e : Ext J H J' H') : Sub J H J' H' := ⟨fun a o n m q => ⟨e.notin n q, by rw [e.z]; exact m, e.keep a o n q⟩, fun _ _ q => e.get q⟩
theorem Sub.trans {J J' J2 : Jn} {H H' H2 : Hp} (e : Sub J H J' H') (f : Sub J' H' J2 H2) : Sub J H J2 H2 :=
  ⟨fun a o n m q => let ⟨x, y, z⟩ := e.l a o n m q; f.l a o x y z, fun i a q => f.get i a (e.get i a q)⟩
theorem Sub.refl {J : Jn} {H : Hp} : Sub J H J H := ⟨fun a o n m q => ⟨n, m, q⟩, fun _ _ q => q⟩

/-! ### iterators -/
structure ItOk (K : PySem.W.Frag) (J : Jn) (H : Hp) (it : It) (src : Src) : Prop where
  go : ∀ {J2 : Jn} {h2 : Hh} {H2 : Hp} {i : Nat} {d : D}, Sub J H J2 H2 → RH K J2 h2 H2 → src.good h2 = true → src.items[i]? = some d → it.go i H2 ∧ ∀ x H3, it.yld i H2 x H3 → Ext J2 H2 J2 H3 ∧ RH K J2 h2 H3 ∧ RD K J2 H3 d x
  stop : ∀ {J2 : Jn} {h2 : Hh} {H2 : Hp}, Sub J H J2 H2 → RH K J2 h2 H2 → src.good h2 = true → it.stop src.items.length H2
def tI (K : PySem.W.Frag) (f : Env → Hh → R Src) : TI := fun σ H Rr => ∃ ρ h J, RE K J H ρ σ ∧ RH K J h H ∧ match f ρ h with
  | .ok src h' => ∀ J' H' it, Ext J H J' H' → RH K J' h' H' → ItOk K J' H' it src → Rr it H'
  | _ => False
section
variable {X : Cx} {e x a b tg : Expr} {p pa pb pc : P} {pos : Pos} {K : PySem.W.Frag} {J : Jn} {H : Hp} {h : Hh}
theorem itl_ok {a : Addr} {ds : List D} {vs : List V} (st : ∀ {J2 : Jn} {H2 : Hp}, Sub J H J2 H2 → SqL K H2 a vs) (r : RDs K J H ds vs) : ItOk K J H (Itl K a) ⟨ds, none⟩ := by
  refine ⟨fun {J2 h2 H2 i d} s rh _ hd => ?_, fun {J2 h2 H2} s rh _ => ⟨vs, st s, by rw [r.length]; exact Nat.le_refl _⟩⟩
  obtain ⟨v, hv, rv⟩ := r.get hd
  refine ⟨⟨vs, v, st s, hv⟩, fun x H3 ⟨e1, e2⟩ => ?_⟩
  subst e1
  have := e2 vs (st s)
  rw [hv] at this; cases this
  exact ⟨Ext.refl, rh, rv.sub s⟩
theorem itt_ok {a : Addr} {ds : List D} {vs : List V} (q : ∀ {J2 : Jn} {H2 : Hp}, Sub J H J2 H2 → SqT K H2 a vs) (r : RDs K J H ds vs) : ItOk K J H (Itt K a) ⟨ds, none⟩ := by
  refine ⟨fun {J2 h2 H2 i d} s rh _ hd => ?_, fun {J2 h2 H2} s rh _ => ⟨vs, q s, by rw [r.length]; exact Nat.le_refl _⟩⟩
  obtain ⟨v, hv, rv⟩ := r.get hd
  refine ⟨⟨vs, v, q s, hv⟩, fun x H3 ⟨e1, e2⟩ => ?_⟩
  subst e1
  have := e2 vs (q s)
  rw [hv] at this; cases this
  exact ⟨Ext.refl, rh, rv.sub s⟩
theorem itl_ref {i : Nat} {a : Addr} {ds : List D} (q : J.l[i]? = some a) : ItOk K J H (Itl K a) ⟨ds, some i⟩ := by
  have st : ∀ {J2 h2 H2}, Sub J H J2 H2 → RH K J2 h2 H2 → Src.good ⟨ds, some i⟩ h2 = true → ∃ vs, SqL K H2 a vs ∧ RDs K J2 H2 ds vs := fun {J2 h2 H2} s rh g => by
    obtain ⟨o, u, h1, h2', h3⟩ := rh.at (s.get i a q)
    simp only [Src.good, h1] at g
    cases h3 with
    | lst z r => have e := sames_eq _ _ g; subst e; exact ⟨_, .inl (.inl h2'), r⟩
    | dct z r => cases g
  refine ⟨fun {J2 h2 H2 j d} s rh g hd => ?_, fun {J2 h2 H2} s rh g => ?_⟩
  · obtain ⟨vs, hq, r⟩ := st s rh g
    obtain ⟨v, hv, rv⟩ := r.get hd
    refine ⟨⟨vs, v, hq, hv⟩, fun x H3 ⟨e1, e2⟩ => ?_⟩
    subst e1
    have := e2 vs hq
    rw [hv] at this; cases this
    exact ⟨Ext.refl, rh, rv⟩
  · obtain ⟨vs, hq, r⟩ := st s rh g
    exact ⟨vs, hq, by rw [r.length]; exact Nat.le_refl _⟩
theorem itr_ok {lo hi : Int} : ItOk K J H (Itr lo (hi - lo).toNat) ⟨rngD lo hi, none⟩ := by
  have hl : (rngD lo hi).length = (hi - lo).toNat := by simp [rngD]
  refine ⟨fun {J2 h2 H2 i d} s rh _ hd => ?_, fun {J2 h2 H2} s rh _ => by show _ ≤ _; rw [hl]; exact Nat.le_refl _⟩
  have hi' : i < (hi - lo).toNat := by rw [← hl]; exact (List.getElem?_eq_some_iff.mp hd).1
  refine ⟨hi', fun x H3 ⟨e1, e2⟩ => ?_⟩
  subst e1 e2
  refine ⟨Ext.refl, rh, ?_⟩
  simp only [rngD, List.getElem?_map, List.getElem?_range hi', Option.map_some, Option.some.injEq] at hd
  subst hd
  exact .int _
/-- the items that a value gives -/
theorem tup_st {ds : List D} {v : V} (r : RD K J H (.tup ds) v) : ∃ a vs, v = .ref a ∧ (∀ {J2 : Jn} {H2 : Hp}, Sub J H J2 H2 → SqT K H2 a vs) ∧ vs.length ≤ sizeLine ∧ RDs K J H ds vs := by
  cases r with
  | tup n m q z r => exact ⟨_, _, rfl, fun s => .inl (.inl (s.l _ _ n m q).2.2), z, r⟩
  | ktup k z r => exact ⟨_, _, rfl, fun _ => .inr k, z, r⟩
theorem lst_st {d : D} {ds : List D} {v : V} (hd : d = .lst ds ∨ d = .fz ds) (r : RD K J H d v) : ∃ a vs, v = .ref a ∧ (∀ {J2 : Jn} {H2 : Hp}, Sub J H J2 H2 → SqL K H2 a vs) ∧ vs.length ≤ sizeLine ∧ RDs K J H ds vs := by
  rcases hd with rfl | rfl
  · cases r with | lst n m q z r => exact ⟨_, _, rfl, fun s => .inl (.inl (s.l _ _ n m q).2.2), z, r⟩
  · cases r with
    | fz n m q z r => exact ⟨_, _, rfl, fun s => .inl (.inr ⟨_, (s.l _ _ n m q).2.2⟩), z, r⟩
    | kfz k z r => exact ⟨_, _, rfl, fun _ => .inr k, z, r⟩
theorem ftup_st {K : PySem.W.Frag} {J : Jn} {H : Hp} {ds : List D} {v : V} (r : RD K J H (.ftup ds) v) : ∃ p vs, v = .ref p ∧ (∀ {J2 : Jn} {H2 : Hp}, Sub J H J2 H2 → SqT K H2 p vs) ∧ vs.length ≤ sizeLine ∧ RDs K J H ds vs := by
  cases r with
  | ft n m q c d z rr => exact ⟨_, _, rfl, fun s => .inl (.inr ⟨_, (s.l _ _ n m q).2.2⟩), z, rr⟩
theorem PI.or {t u : TI} (h : PI X tg e t) (h' : PI X tg e u) : PI X tg e (fun σ H R => t σ H R ∨ u σ H R) := ⟨fun p s σ H R I q => q.elim (h.run p s σ H R I) (h'.run p s σ H R I)⟩
/-- a value that is walked: a list or a tuple -/
theorem pi_any (ha : PE X a (tG X.K (rD X.K) pa.v)) : PI X tg a (tI X.K fun ρ h => (pa.v ρ h).bind fun x h1 => R.opt (x.src h1) h1) := by
  refine ⟨fun pins s σ H Rr I ⟨ρ, h, J, re, rh, q⟩ => ?_⟩
  dsimp only at q
  cases ev : pa.v ρ h with
  | ok d h1 =>
    rw [ev, R.bind_ok] at q
    cases es : d.src h1 with
    | none => rw [es] at q; exact False.elim q
    | some src =>
      rw [es] at q
      have q : ∀ J' H' it, Ext J H J' H' → RH X.K J' h1 H' → ItOk X.K J' H' it src → Rr it H' := q
      have lists : (∃ ds, (d = .lst ds ∨ d = .fz ds) ∧ src = ⟨ds, none⟩) → wpAny (model X.prog X.w) X.A (eval a X.env) (fun v s1 => wpAny (model X.prog X.w) X.A (pyIter v) (PIE X pins σ tg Rr) X.xe s1) X.xe s := by
        rintro ⟨ds, hd, rfl⟩
        refine (pi_list ha).run pins s σ H Rr I ⟨ρ, h, J, re, rh, ?_⟩
        rw [ev]
        intro J' H' v e1 rh' rv
        obtain ⟨p, vs, rfl, hq, z, rr⟩ := lst_st hd rv
        exact ⟨p, rfl, ⟨vs, hq Sub.refl⟩, q J' H' _ e1 rh' (itl_ok hq rr)⟩
      cases d with
      | lst ds => cases es; exact lists ⟨ds, .inl rfl, rfl⟩
      | fz ds => cases es; exact lists ⟨ds, .inr rfl, rfl⟩
      | tup ds =>
        cases es
        refine (pi_tup ha).run pins s σ H Rr I ⟨ρ, h, J, re, rh, ?_⟩
        rw [ev]
        intro J' H' v e1 rh' rv
        obtain ⟨p, vs, rfl, hq, z, rr⟩ := tup_st rv
        exact ⟨p, rfl, ⟨vs, hq Sub.refl⟩, q J' H' _ e1 rh' (itt_ok hq rr)⟩
      | ftup ds =>
        cases es
        refine (pi_tup ha).run pins s σ H Rr I ⟨ρ, h, J, re, rh, ?_⟩
        rw [ev]
        intro J' H' v e1 rh' rv
        obtain ⟨p, vs, rfl, hq, z, rr⟩ := ftup_st rv
        exact ⟨p, rfl, ⟨vs, hq Sub.refl⟩, q J' H' _ e1 rh' (itt_ok hq rr)⟩
      | ref i =>
        simp only [D.src] at es
        split at es
        · rename_i ys hys
          cases es
          refine (pi_list ha).run pins s σ H Rr I ⟨ρ, h, J, re, rh, ?_⟩
          rw [ev]
          intro J' H' v e1 rh' rv
          cases rv with
          | ref qi =>
            obtain ⟨o, u, h1', h2', h3⟩ := rh'.at qi
            rw [hys] at h1'; cases h1'
            cases h3 with
            | lst z rr => exact ⟨_, rfl, ⟨_, .inl (.inl h2')⟩, q J' H' _ e1 rh' (itl_ref qi)⟩
        · cases es
      | _ => cases es
  | bad => rw [ev] at q; exact False.elim q
  | err _ _ => rw [ev] at q; exact False.elim q
theorem rngOk_inv {i j : Int} (h : rngOk i j = true) : -(2 ^ 62) ≤ i ∧ i < 2 ^ 62 ∧ -(2 ^ 62) ≤ j ∧ j < 2 ^ 62 := by
  simp only [rngOk, Bool.and_eq_true, decide_eq_true_eq] at h
  exact ⟨h.1.1.1, h.1.1.2, h.1.2, h.2⟩
theorem R.step_inv {α β : Type} {r : R α} {f : α → Hh → R β} {P : R β → Prop} (q : P (r.bind f)) (hb : ¬ P .bad) (he : ∀ x h, ¬ P (.err x h)) : ∃ a h1, r = .ok a h1 ∧ P (f a h1) := by
  cases r with
  | ok a h1 => exact ⟨a, h1, rfl, q⟩
  | bad => exact absurd q hb
  | err x h => exact absurd q (he x h)
/-- what a walk's reading wants -/
def wI (K : PySem.W.Frag) (J : Jn) (H : Hp) (Rr : It → Hp → Prop) (r : R Src) : Prop := match r with
  | .ok src h' => ∀ J' H' it, Ext J H J' H' → RH K J' h' H' → ItOk K J' H' it src → Rr it H'
  | _ => False
theorem wI.step {α β : Type} {R1 : RelA α β} {f : Env → Hh → R α} {g : α → Hh → R Src} {Rr : It → Hp → Prop} {ρ : Env} {σ : L2.St} (re : RE K J H ρ σ) (rh : RH K J h H) (p : wI K J H Rr ((f ρ h).bind g)) :
    tG K R1 f σ H (fun b H1 => ∃ J1 h1 a, Ext J H J1 H1 ∧ RE K J1 H1 ρ σ ∧ RH K J1 h1 H1 ∧ R1 J1 H1 a b ∧ wI K J1 H1 Rr (g a h1)) := by
  refine ⟨ρ, h, J, re, rh, ?_⟩
  cases q : f ρ h with
  | ok a h1 =>
    rw [q, R.bind_ok] at p
    refine fun J1 H1 b e rh1 rl => ⟨J1, h1, a, e, re.ext e, rh1, rl, ?_⟩
    cases q2 : g a h1 with
    | ok src h2 => rw [q2] at p; exact fun J2 H2 it e2 rh2 ok => p J2 H2 it (e.trans rh rh1 e2) rh2 ok
    | bad => rw [q2] at p; exact p
    | err _ _ => rw [q2] at p; exact p
  | bad => rw [q] at p; exact p
  | err _ _ => rw [q] at p; exact p
theorem pi_rng {pp : Pos} (hg : Gl X "range") (hm : X.mg "range" = none) (hp : plainX a = true) (ha : SE X a pa) :
    PI X tg (.Call (.Name "range" pp) [a] [] pos) (tI X.K fun ρ h => (pa.v ρ h).bind fun x h1 => R.opt (x.isInt.bind fun n => if rngOk 0 n then some ⟨rngD 0 n, none⟩ else none) h1) := by
  have hs : starEach [a] X.env = [(false, eval a X.env)] := plain_star hp [] _
  refine (pi_range1 hg hm (pa_cons ha.v pa_nil hs) hs).imp fun σ H Rr ⟨ρ, h, J, re, rh, q⟩ => ?_
  refine (wI.step (R1 := rD X.K) (f := pa.v) re rh q).mono fun x H1 ⟨J1, h1, d, e1, re1, rh1, rx, q1⟩ => ?_
  cases d with
  | int n =>
    simp only [D.isInt, Option.bind_some] at q1
    split at q1
    · rename_i hz
      obtain ⟨_, _, z1, z2⟩ := rngOk_inv hz
      refine ⟨n, by rw [rx.int_inv], z1, z2, ?_⟩
      have := q1 J1 H1 (Itr 0 (n - 0).toNat) Ext.refl rh1 itr_ok
      rwa [Int.sub_zero] at this
    · exact False.elim q1
  | _ => exact False.elim q1
theorem pi_rng2 {pp : Pos} (hg : Gl X "range") (hm : X.mg "range" = none) (hp : plainX a = true) (hp2 : plainX b = true) (ha : SE X a pa) (hb : SE X b pb) :
    PI X tg (.Call (.Name "range" pp) [a, b] [] pos) (tI X.K fun ρ h => (pa.v ρ h).bind fun x h1 => (pb.v ρ h1).bind fun y h2 => R.opt (x.isInt.bind fun i => y.isInt.bind fun j => if rngOk i j then some ⟨rngD i j, none⟩ else none) h2) := by
  have hs2 : starEach [b] X.env = [(false, eval b X.env)] := plain_star hp2 [] _
  have hs : starEach [a, b] X.env = [(false, eval a X.env), (false, eval b X.env)] := by rw [plain_star hp, hs2]
  refine (pi_range2 hg hm (pa_cons ha.v (pa_cons hb.v pa_nil hs2) (plain_star hp _ _)) hs hs2).imp fun σ H Rr ⟨ρ, h, J, re, rh, q⟩ => ?_
  refine (wI.step (R1 := rD X.K) (f := pa.v) re rh q).mono fun x H1 ⟨J1, h1, d, e1, re1, rh1, rx, q1⟩ => ?_
  refine (wI.step (R1 := rD X.K) (f := pb.v) re1 rh1 q1).mono fun y H2 ⟨J2, h2, d2, e2, re2, rh2, ry, q2⟩ => ?_
  cases d with
  | int n =>
    cases d2 with
    | int m =>
      simp only [D.isInt, Option.bind_some] at q2
      split at q2
      · rename_i hz
        exact ⟨n, m, by rw [rx.int_inv, ry.int_inv], rngOk_inv hz, q2 J2 H2 _ Ext.refl rh2 itr_ok⟩
      · exact False.elim q2
    | _ => exact False.elim q2
  | _ => exact False.elim q2

theorem zipD_get {xs ys : List D} {i : Nat} {d : D} (e : (zipD xs ys)[i]? = some d) : ∃ x y, xs[i]? = some x ∧ ys[i]? = some y ∧ d = .tup [x, y] := by
  unfold zipD at e
  rw [List.getElem?_zipWith] at e
  split at e
  · rename_i x y hx hy; cases e; exact ⟨x, y, hx, hy, rfl⟩
  · cases e
theorem zipD_len (xs ys : List D) : xs.length ≤ (zipD xs ys).length ∨ ys.length ≤ (zipD xs ys).length := by
  unfold zipD; rw [List.length_zipWith]; omega
theorem two_ok {x y : V} : [x, y].length ≤ sizeLine := by show 2 ≤ sizeLine; decide
theorem itzT_ok {a b : Addr} {xs ys : List D} {vs ws : List V} (q : ∀ {J2 : Jn} {H2 : Hp}, Sub J H J2 H2 → SqT K H2 a vs) (r : RDs K J H xs vs) (q' : ∀ {J2 : Jn} {H2 : Hp}, Sub J H J2 H2 → SqT K H2 b ws) (r' : RDs K J H ys ws) :
    ItOk K J H (RZ.ItzT K a b) ⟨zipD xs ys, none⟩ := by
  refine ⟨fun {J2 h2 H2 i d} s rh _ hd => ?_, fun {J2 h2 H2} s rh _ => ⟨vs, ws, q s, q' s, by rw [← r.length, ← r'.length]; exact zipD_len xs ys⟩⟩
  obtain ⟨dx, dy, hx, hy, rfl⟩ := zipD_get hd
  obtain ⟨v, hv, rv⟩ := r.get hx
  obtain ⟨w, hw, rw'⟩ := r'.get hy
  refine ⟨⟨vs, ws, v, w, q s, q' s, hv, hw⟩, fun x H3 ⟨T, v', w', e1, nT, e2, f1, f2⟩ => ?_⟩
  have h1 := f1 vs (q s)
  have h2 := f2 ws (q' s)
  rw [hv] at h1; cases h1
  rw [hw] at h2; cases h2
  subst e1 e2
  exact ⟨Ext.laid nT, rh.laid nT, RD.newTup rh nT (.cons (rv.sub s) (.cons (rw'.sub s) .nil)) two_ok⟩
theorem itz_ok {a b : Addr} {xs ys : List D} {vs ws : List V} (q : ∀ {J2 : Jn} {H2 : Hp}, Sub J H J2 H2 → SqL K H2 a vs) (r : RDs K J H xs vs) (q' : ∀ {J2 : Jn} {H2 : Hp}, Sub J H J2 H2 → SqL K H2 b ws) (r' : RDs K J H ys ws) :
    ItOk K J H (Itz K a b) ⟨zipD xs ys, none⟩ := by
  refine ⟨fun {J2 h2 H2 i d} s rh _ hd => ?_, fun {J2 h2 H2} s rh _ => ⟨vs, ws, q s, q' s, by rw [← r.length, ← r'.length]; exact zipD_len xs ys⟩⟩
  obtain ⟨dx, dy, hx, hy, rfl⟩ := zipD_get hd
  obtain ⟨v, hv, rv⟩ := r.get hx
  obtain ⟨w, hw, rw'⟩ := r'.get hy
  refine ⟨⟨vs, ws, v, w, q s, q' s, hv, hw⟩, fun x H3 ⟨T, v', w', e1, nT, e2, f1, f2⟩ => ?_⟩
  have h1 := f1 vs (q s)
  have h2 := f2 ws (q' s)
  rw [hv] at h1; cases h1
  rw [hw] at h2; cases h2
  subst e1 e2
  exact ⟨Ext.laid nT, rh.laid nT, RD.newTup rh nT (.cons (rv.sub s) (.cons (rw'.sub s) .nil)) two_ok⟩
theorem lst_st2 {ds : List D} {v : V} (r : RD K J H (.lst ds) v) : ∃ a vs, v = .ref a ∧ (∀ {J2 : Jn} {H2 : Hp}, Sub J H J2 H2 → SqL K H2 a vs) ∧ RDs K J H ds vs := by
  cases r with | lst n m q z r => exact ⟨_, _, rfl, fun s => .inl (.inl (s.l _ _ n m q).2.2), r⟩
theorem pi_zipS {pp tp : Pos} {elts : List Expr} {kk : Nat} (hg : Gl X "zip") (hm : X.mg "zip" = none) (hp : plainX a = true) (hp2 : plainX b = true) (ha : SE X a pa) (hb : SE X b pb) :
    PI X (.Tuple elts kk tp) (.Call (.Name "zip" pp) [a, b] [] pos) (tI X.K fun ρ h => (pa.v ρ h).bind fun x h1 => (pb.v ρ h1).bind fun y h2 => R.opt (zipSrc x y) h2) := by
  have hs2 : starEach [b] X.env = (false, eval b X.env) :: starEach [] X.env := plain_star hp2 [] _
  refine (RZ.pi_zipA hg hm (pa_cons ha.v (pa_cons hb.v pa_nil hs2) (plain_star hp _ _)) (plain_star hp _ _) (by rw [hs2]; rfl)).imp fun σ H Rr ⟨ρ, h, J, re, rh, q⟩ => ?_
  refine (wI.step (R1 := rD X.K) (f := pa.v) re rh q).mono fun x H1 ⟨J1, h1, d, e1, re1, rh1, rx, q1⟩ => ?_
  refine (wI.step (R1 := rD X.K) (f := pb.v) re1 rh1 q1).mono fun y H2 ⟨J2, h2, d2, e2, re2, rh2, ry, q2⟩ => ?_
  have rx := rx.ext e2
  cases hz : zipSrc d d2 with
  | none => rw [hz] at q2; exact False.elim q2
  | some src =>
    rw [hz] at q2
    unfold zipSrc at hz
    split at hz
    · cases hz
      obtain ⟨p, vs, rfl, hq, z, rr⟩ := tup_st rx
      obtain ⟨p', ws, rfl, hq', z', rr'⟩ := tup_st ry
      exact ⟨p, p', vs, ws, rfl, .inr ⟨hq Sub.refl, hq' Sub.refl, q2 J2 H2 _ Ext.refl rh2 (itzT_ok hq rr hq' rr')⟩⟩
    · cases hz
      obtain ⟨p, vs, rfl, hq, rr⟩ := lst_st2 rx
      obtain ⟨p', ws, rfl, hq', rr'⟩ := lst_st2 ry
      exact ⟨p, p', vs, ws, rfl, .inl ⟨hq Sub.refl, hq' Sub.refl, q2 J2 H2 _ Ext.refl rh2 (itz_ok hq rr hq' rr')⟩⟩
    · cases hz
end
end PV
end

section
set_option maxRecDepth 100000
namespace PV
open L2 PySem PySem.Spec PyProof.Rows
section
variable {X : Cx} {e x a b tg : Expr} {p pa pb pc : P} {pos : Pos} {K : PySem.W.Frag} {J : Jn} {H : Hp} {h : Hh}

/-! ### targets -/
/-- storing an item -/
def gD (K : PySem.W.Frag) (t : Tg) (vs : List Nat) : TG := fun v σ H Q => ∃ ρ ρ' h J d, RE K J H ρ σ ∧ RH K J h H ∧ RD K J H d v ∧ t.put d ρ = some ρ' ∧ ∀ σ', RE K J H ρ' σ' → (∀ j, j ∉ vs → σ'[j]? = σ[j]?) → σ'.length = σ.length → Q σ' H
structure ST (X : Cx) (e : Expr) (t : Tg) (vs : List Nat) : Prop where
  run : PG X e (gD X.K t vs)
theorem st_v {i : Nat} {y : Str} (hN : X.N.Nodup) (hi : X.N[i]? = some y) (hx : L2.Loc X.env.scope y) (hf : X.fn y = true ∨ X.env.scope.names.lookup y = some .local) : ST X (.Name y pos) (.v i) [i] := by
  refine ⟨(pg_name hN hi hx hf).imp fun v σ H Q ⟨ρ, ρ', h, J, d, re, rh, rd, e, q⟩ => ?_⟩
  cases e
  exact q _ (re.set i rd) (fun j hj => by rw [List.getElem?_set_ne]; intro z; subst z; exact hj (by simp)) (by simp)
/-- several names -/
structure STs (X : Cx) (es : List Expr) (is : List Nat) : Prop where
  run : PGs X es (fun vs σ H Q => ∃ ρ ρ' h J ds, RE X.K J H ρ σ ∧ RH X.K J h H ∧ RDs X.K J H ds vs ∧ setAll is ds ρ = some ρ' ∧ ∀ σ', RE X.K J H ρ' σ' → (∀ j, j ∉ is → σ'[j]? = σ[j]?) → σ'.length = σ.length → Q σ' H)
  noStar : ∀ e ∈ es, ∃ y p, e = .Name y p
  len : es.length = is.length
theorem _root_.L2.PGs.imp {X : Cx} {e : List Expr} {t t' : TGs} (h : PGs X e t) (i : ∀ v σ H Q, t' v σ H Q → t v σ H Q) : PGs X e t' := ⟨fun p s σ H v u Q I r q => h.run p s σ H v u Q I r (i v σ H Q q)⟩
theorem sts_nil : STs X [] [] := by
  refine ⟨pgs_nil.imp fun v σ H Q ⟨ρ, ρ', h, J, ds, re, rh, rs, e, q⟩ => ?_, fun _ z => (by cases z), rfl⟩
  cases ds with
  | nil => cases rs; cases e; exact ⟨rfl, q _ re (fun _ _ => rfl) rfl⟩
  | cons _ _ => cases e
theorem sts_cons {i : Nat} {y : Str} {es : List Expr} {is : List Nat} (hN : X.N.Nodup) (hi : X.N[i]? = some y) (hx : L2.Loc X.env.scope y) (hf : X.fn y = true ∨ X.env.scope.names.lookup y = some .local) (hs : STs X es is) : STs X (.Name y pos :: es) (i :: is) := by
  refine ⟨(pgs_cons (pg_name (pos := pos) hN hi hx hf) hs.run rfl).imp fun v σ H Q ⟨ρ, ρ', h, J, ds, re, rh, rs, e, q⟩ => ?_, fun e he => ?_, by simp [hs.len]⟩
  · cases ds with
    | nil => cases e
    | cons d ds =>
      cases rs with
      | cons r t =>
        refine ⟨_, _, rfl, ?_⟩
        refine ⟨ρ.set i (some d), ρ', h, J, ds, re.set i r, rh, t, e, fun σ' re' hk hl => q σ' re' (fun j hj => ?_) (by rw [hl]; simp)⟩
        simp only [List.mem_cons, not_or] at hj
        rw [hk j hj.2, List.getElem?_set_ne (fun z => hj.1 z.symm)]
  · (rcases List.mem_cons.mp he with rfl | he)
    · exact ⟨_, _, rfl⟩
    · exact hs.noStar e he
theorem each_names : ∀ {es : List Expr} (env : PySem.Env), (∀ e ∈ es, ∃ y p, e = Expr.Name y p) → (assignEach es env).length = es.length ∧ (assignEach es env).findIdx? (·.1) = none
  | [], _, _ => ⟨rfl, rfl⟩
  | e :: es, env, h => by
    obtain ⟨y, p, rfl⟩ := h e List.mem_cons_self
    obtain ⟨h1, h2⟩ := each_names (es := es) env fun e he => h e (List.mem_cons_of_mem _ he)
    constructor
    · show (assignEach es env).length + 1 = es.length + 1
      rw [h1]
    · show ((false, assign (.Name y p) env) :: assignEach es env).findIdx? (·.1) = none
      rw [List.findIdx?_cons]
      simp [h2]
theorem setAll_len : ∀ {is : List Nat} {ds : List D} {ρ ρ' : Env}, setAll is ds ρ = some ρ' → ds.length = is.length
  | [], [], _, _, _ => rfl
  | [], _ :: _, _, _, h => by cases h
  | _ :: _, [], _, _, h => by cases h
  | i :: is, d :: ds, ρ, ρ', h => by simp [setAll_len (is := is) (ds := ds) h]
theorem st_tu {es : List Expr} {is : List Nat} {k : Nat} (hc : X.calm = true) (hs : STs X es is) : ST X (.Tuple es k pos) (.tu is) is := by
  obtain ⟨h1, h2⟩ := each_names X.env hs.noStar
  refine ⟨(pg_tup (n := is.length) hc hs.run (h1.trans hs.len) h2).imp fun v σ H Q ⟨ρ, ρ', h, J, d, re, rh, rd, e, q⟩ => ?_⟩
  cases d with
  | tup ds =>
    obtain ⟨a, vs, rfl, hq, z, rs⟩ := rd.tup_inv
    exact ⟨a, vs, rfl, hq, by rw [← rs.length]; exact setAll_len e, ρ, ρ', h, J, ds, re, rh, rs, e, q⟩
  | _ => cases e

/-! ### comprehensions -/
theorem wipe_get {σ : L2.St} : ∀ {vs : List Nat} {j : Nat}, j ∉ vs → (wipe σ vs)[j]? = σ[j]?
  | [], _, _ => rfl
  | v :: vs, j, h => by
    simp only [List.mem_cons, not_or] at h
    unfold wipe
    rw [List.getElem?_set_ne (fun z => h.1 z.symm), wipe_get h.2]
theorem wipe_in {σ : L2.St} : ∀ {vs : List Nat} {j : Nat}, j ∈ vs → j < σ.length → (wipe σ vs)[j]? = some none
  | v :: vs, j, h, hl => by
    unfold wipe
    by_cases hj : v = j
    · subst hj; rw [List.getElem?_set_self (by rw [wipe_length]; exact hl)]
    · rw [List.getElem?_set_ne hj]
      exact wipe_in ((List.mem_cons.mp h).resolve_left fun z => hj z.symm) hl
theorem wipe_same {σ σ' : L2.St} {vs : List Nat} (h : ∀ j, j ∉ vs → σ'[j]? = (wipe σ vs)[j]?) (hl : σ'.length = (wipe σ vs).length) : wipe σ' vs = wipe σ vs := by
  have hl2 : σ'.length = σ.length := by rw [hl, wipe_length]
  apply List.ext_getElem?
  intro j
  by_cases hj : j ∈ vs
  · by_cases hb : j < σ.length
    · rw [wipe_in hj (by rw [hl2]; exact hb), wipe_in hj hb]
    · rw [List.getElem?_eq_none (by rw [wipe_length, hl2]; omega), List.getElem?_eq_none (by rw [wipe_length]; omega)]
  · rw [wipe_get hj, h j hj]
/-- the names ahead of a comprehension, its own forgotten -/
def wipeD : List Nat → Env → Env
  | [], ρ => ρ
  | v :: vs, ρ => (wipeD vs ρ).set v none
theorem RE.wipe {ρ : Env} {σ : L2.St} (r : RE K J H ρ σ) : ∀ vs : List Nat, RE K J H (wipeD vs ρ) (wipe σ vs)
  | [] => r
  | v :: vs => by
    have ih := RE.wipe r vs
    unfold wipeD L2.wipe
    refine ⟨by simp [ih.len], fun j d q => ?_⟩
    by_cases hj : v = j
    · subst hj
      by_cases hl : v < (wipeD vs ρ).length
      · rw [List.getElem?_set_self hl] at q; cases q
      · rw [List.getElem?_eq_none (by simpa using hl)] at q; cases q
    · rw [List.getElem?_set_ne hj] at q
      obtain ⟨w, h1, h2⟩ := ih.get j d q
      exact ⟨w, by rw [List.getElem?_set_ne hj]; exact h1, h2⟩
theorem Sub.re {J J' : Jn} {H H' : Hp} {ρ : Env} {σ : L2.St} (s : Sub J H J' H') (r : RE K J H ρ σ) : RE K J' H' ρ σ := ⟨r.len, fun i d q => let ⟨v, a, b⟩ := r.get i d q; ⟨v, a, b.sub s⟩⟩
theorem setAll_of : ∀ {is : List Nat} {ds : List D} {ρ1 ρ2 : Env}, (∀ j, j ∉ is → ρ1[j]? = ρ2[j]?) → ρ1.length = ρ2.length → setAll is ds ρ1 = setAll is ds ρ2
  | [], [], ρ1, ρ2, h, _ => by
    have : ρ1 = ρ2 := List.ext_getElem? fun j => h j (by simp)
    rw [this]
  | [], _ :: _, _, _, _, _ => rfl
  | _ :: _, [], _, _, _, _ => rfl
  | i :: is, d :: ds, ρ1, ρ2, h, hl => by
    unfold setAll
    refine setAll_of (fun j hj => ?_) (by simp [hl])
    by_cases e : i = j
    · subst e
      rw [List.getElem?_set, List.getElem?_set, hl]
      simp
    · rw [List.getElem?_set_ne e, List.getElem?_set_ne e]
      exact h j (by simp only [List.mem_cons, not_or]; exact ⟨fun z => e z.symm, hj⟩)
theorem wipeD_get {ρ : Env} : ∀ {vs : List Nat} {j : Nat}, j ∉ vs → (wipeD vs ρ)[j]? = ρ[j]?
  | [], _, _ => rfl
  | v :: vs, j, h => by
    simp only [List.mem_cons, not_or] at h
    unfold wipeD
    rw [List.getElem?_set_ne (fun z => h.1 z.symm), wipeD_get h.2]
theorem wipeD_len {ρ : Env} : ∀ {vs : List Nat}, (wipeD vs ρ).length = ρ.length
  | [] => rfl
  | v :: vs => by unfold wipeD; rw [List.length_set, wipeD_len]
theorem put_wipe (t : Tg) (d : D) (ρ : Env) : t.put d (wipeD t.slots ρ) = t.put d ρ := by
  cases t with
  | v i => simp [Tg.put, Tg.slots, wipeD]
  | tu is =>
    unfold Tg.put Tg.slots
    cases d with
    | tup xs => exact setAll_of (fun j hj => wipeD_get hj) wipeD_len
    | _ => rfl
/-- the reading of a comprehension is what the rule wants -/
theorem lc_read {t : Tg} {f : Env → Hh → R Src} {pt pe : P} {σ : L2.St} {Q : VK} (hq : tF K (fun ρ h => (f ρ h).bind fun s h1 => if sizeOk s.items.length then lcLoop s.good (lcTurn t pt pe ρ) s.items [] h1 else .bad) σ H Q) :
    tLc (tI K f) (gD K t t.slots) (tG K rB pt.t) (tG K (rD K) pe.v) t.slots σ H Q := by
  obtain ⟨ρ, h, J, re, rh, q⟩ := hq
  refine ⟨ρ, h, J, re, rh, ?_⟩
  dsimp only at q
  cases ev : f ρ h with
  | bad => rw [ev] at q; exact q
  | err _ _ => rw [ev] at q; exact q
  | ok src h1 =>
    rw [ev, R.bind_ok] at q
    cases hsi : sizeOk src.items.length with
    | false => rw [hsi] at q; exact False.elim q
    | true =>
    rw [hsi] at q
    simp only [if_true] at q
    intro J1 H1 it e1 rh1 itok D nD
    have nDH : H D = none := by
      cases hp : H D with
      | none => rfl
      | some u =>
        exfalso
        by_cases n : D ∈ J.l
        · obtain ⟨m, hm, _⟩ := e1.pre
          obtain ⟨u', h2⟩ := rh1.inl (a := D) (by rw [hm]; exact List.mem_append_left _ n)
          rw [nD] at h2; cases h2
        · have := e1.keep D u n hp; rw [nD] at this; cases this
    -- the loop's word: so many items are gone, what is made so far lies at D
    let W : Nat → Nat → Hp → Prop := fun i m H2 => m = src.items.length - i ∧ i ≤ src.items.length ∧ ∃ J2 h2 acc vs, J2.z = D :: J.z ∧ Ext J H ⟨J2.l, J.z⟩ H2 ∧ Sub J1 H1 J2 H2 ∧ RH K J2 h2 H2 ∧ H2 D = some (.lst vs) ∧ vs.length ≤ i ∧ vs.length ≤ sizeLine ∧ RDs K J2 H2 acc vs ∧
      (match lcLoop src.good (lcTurn t pt pe ρ) (src.items.drop i) acc h2 with
        | .ok (.lst ds) h' => ∀ J' H' a vs, Ext J H ⟨J'.l, J.z⟩ H' → J'.z = a :: J.z → RH K J' h' H' → H' a = some (.lst vs) → vs.length ≤ sizeLine → RDs K J' H' ds vs → H a = none → Q (.ref a) H'
        | _ => False)
    refine ⟨W, ⟨src.items.length, by simp, Nat.zero_le _, J1.hide D, h1, [], [], by rw [← e1.z], ?_, (Sub.hide nD).trans (Ext.laid nD).sub, rh1.hide nD, upd_same, Nat.zero_le _, Nat.zero_le _, .nil, q⟩, fun i m H2 hW => ?_⟩
    · exact ⟨rfl, e1.pre, fun a o n q => by rw [upd_ne (ne_of_none (e1.keep a o n q) nD)]; exact e1.keep a o n q⟩
    · obtain ⟨rfl, hi', J2, h2, acc, vs, ez, e2, s2, rh2, hD, hv, hsz, rs, q⟩ := hW
      cases hd : src.items[i]? with
      | none =>
        -- the end
        have hlen : i = src.items.length := by have := List.getElem?_eq_none_iff.mp hd; omega
        subst hlen
        rw [List.drop_eq_nil_of_le (Nat.le_refl _)] at q
        unfold lcLoop at q
        split at q
        · rename_i ds h' heq
          split at heq
          · rename_i hgood
            cases heq
            exact .inl ⟨itok.stop s2 rh2 hgood, q J2 H2 D vs e2 ez rh2 hD hsz rs nDH⟩
          · cases heq
        · exact False.elim q
      | some d =>
        have hlt : i < src.items.length := (List.getElem?_eq_some_iff.mp hd).1
        rw [List.drop_eq_getElem_cons hlt] at q
        have hde : src.items[i] = d := by rw [List.getElem?_eq_getElem hlt] at hd; exact Option.some.inj hd
        rw [hde] at q
        unfold lcLoop at q
        cases hgood : src.good h2 with
        | false => rw [hgood] at q; exact False.elim q
        | true =>
          rw [hgood] at q
          simp only [if_true] at q
          obtain ⟨g1, g2⟩ := itok.go s2 rh2 hgood hd
          refine .inr ⟨g1, fun H' => ∃ m', m' < src.items.length - i ∧ W (i + 1) m' H', fun H' z => z, fun xv H3 y3 => ?_⟩
          obtain ⟨e3, rh3, rd3⟩ := g2 xv H3 y3
          have hD3 : H3 D = some (.lst vs) := e3.keep D _ (rh2.apart D (by rw [ez]; exact List.mem_cons_self)) hD
          cases ht2 : t.put d ρ with
          | none => simp only [lcTurn, ht2] at q
          | some ρ' =>
            simp only [lcTurn, ht2] at q
            have re3 : RE K J2 H3 ρ σ := (re.ext e1 |> Sub.re s2).ext e3
            have sub3 : Sub J1 H1 J2 H3 := s2.trans e3.sub
            have ext3 : Ext J H ⟨J2.l, J.z⟩ H3 := ⟨rfl, e2.pre, fun a o n q => e3.keep a o (e2.notin n q) (e2.keep a o n q)⟩
            refine ⟨_, ρ', h2, J2, d, re3.wipe _, rh3, rd3, by rw [put_wipe]; exact ht2, fun σ2 re4 hk hl => ⟨wipe_same hk hl, ?_⟩⟩
            -- the test, the element
            have nx : ∀ (J5 : Jn) (h5 : Hh) (H5 : Hp) (acc5 : List PV.D) (vs5 : List V), Ext J2 H3 J5 H5 → RH K J5 h5 H5 → (∀ u, Ext J H ⟨J5.l, J.z⟩ (upd H5 D u)) ∧ Sub J1 H1 J5 H5 := fun J5 h5 H5 acc5 vs5 e5 rh5 => by
              refine ⟨fun u => ⟨rfl, ?_, fun a o n q => ?_⟩, sub3.trans e5.sub⟩
              · obtain ⟨m1, hm1, f1⟩ := ext3.pre
                obtain ⟨m2, hm2, f2⟩ := e5.pre
                have hm1 : J2.l = J.l ++ m1 := hm1
                refine ⟨m1 ++ m2, by show J5.l = _; rw [hm2, hm1, List.append_assoc], fun a ha => ?_⟩
                rcases List.mem_append.mp ha with z | z
                · exact f1 a z
                · cases hp : H a with
                  | none => rfl
                  | some w =>
                    exfalso
                    by_cases n : a ∈ J.l
                    · obtain ⟨w', h2'⟩ := rh3.inl (a := a) (by rw [hm1]; exact List.mem_append_left _ n)
                      rw [f2 a z] at h2'; cases h2'
                    · have := ext3.keep a w n hp; rw [f2 a z] at this; cases this
              · have hne : a ≠ D := by rintro rfl; rw [nDH] at q; cases q
                rw [upd_ne hne]
                exact e5.keep a o (ext3.notin n q) (ext3.keep a o n q)
            refine ⟨ρ', h2, J2, re4, rh3, ?_⟩
            cases et : pt.t ρ' h2 with
            | bad => rw [et] at q; exact False.elim q
            | err _ _ => rw [et] at q; exact False.elim q
            | ok okb h3 =>
              rw [et, R.bind_ok] at q
              intro J4 H4 bb e4 rh4 hbb
              have hbb : okb = bb := hbb
              subst hbb
              have hD4 : H4 D = some (.lst vs) := e4.keep D _ (rh3.apart D (by rw [ez]; exact List.mem_cons_self)) hD3
              cases okb with
              | false =>
                simp only [Bool.false_eq_true, if_false] at q ⊢
                obtain ⟨n1, n2⟩ := nx J4 h3 H4 acc vs e4 rh4
                refine ⟨_, by omega, rfl, hlt, J4, h3, acc, vs, by rw [e4.z, ez], ?_, n2, rh4, hD4, by omega, hsz, (rs.ext e3).ext e4, q⟩
                have := n1 (.lst vs)
                have hu : upd H4 D (.lst vs) = H4 := by funext a; unfold upd; split <;> simp_all
                rwa [hu] at this
              | true =>
                simp only [if_true] at q ⊢
                refine ⟨ρ', h3, J4, re4.ext e4, rh4, ?_⟩
                cases ee : pe.v ρ' h3 with
                | bad => rw [ee] at q; exact False.elim q
                | err _ _ => rw [ee] at q; exact False.elim q
                | ok y h4 =>
                  rw [ee] at q
                  simp only [R.bind_ok] at q
                  intro J5 H5 yv e5 rh5 ry
                  have hz4 : D ∈ J4.z := by rw [e4.z, ez]; exact List.mem_cons_self
                  have hz5 : D ∈ J5.z := by rw [e5.z]; exact hz4
                  have hD5 : H5 D = some (.lst vs) := e5.keep D _ (rh4.apart D hz4) hD4
                  have e45 : Ext J2 H3 J5 H5 := e4.trans rh3 rh4 e5
                  obtain ⟨n1, n2⟩ := nx J5 h4 H5 acc vs e45 rh5
                  have hlen : vs.length < sizeLine := by have := size_of hsi; omega
                  refine ⟨vs, hD5, hlen, _, by omega, rfl, hlt, J5, h4, acc ++ [y], vs ++ [yv], by rw [e5.z, e4.z, ez], n1 _, n2.trans (Sub.writeZ hz5), rh5.writeZ hz5, upd_same, by simp; omega, by simp; omega, ?_, q⟩
                  exact (((rs.ext e3).ext e45).append (.cons ry .nil)).sub (Sub.writeZ hz5)
theorem se_lcF {elt iter : Expr} {ifs : List Expr} {scope : Scope} {own : List (Str × Nat)} {t : Tg} {f : Env → Hh → R Src} {pt pe : P} {tt : TT} (hc : X.calm = true) (hN : X.N.Nodup) (hi : PI X tg iter (tI X.K f)) (ok : BlkOk X.N X.env.scope scope own) (hown : own.map (·.2) = t.slots)
    (hg : ∀ (s : Shared) (H : Hp) (C : Addr) (cl : List (Str × Addr)) (fp : List Addr), ST (X.blk s H scope (compEnvC scope cl C X.env) fp) tg t t.slots)
    (ht : ∀ (s : Shared) (H : Hp) (C : Addr) (cl : List (Str × Addr)) (fp : List Addr), PTs (X.blk s H scope (compEnvC scope cl C X.env) fp) ifs (tG X.K rB pt.t))
    (he : ∀ (s : Shared) (H : Hp) (C : Addr) (cl : List (Str × Addr)) (fp : List Addr), PE (X.blk s H scope (compEnvC scope cl C X.env) fp) elt (tG X.K (rD X.K) pe.v)) (hs : ∀ x, foldedSetIterable iter X.env x = pure x) :
    PE X (.ListComp elt [⟨tg, iter, ifs, 0⟩] scope pos) (tF X.K fun ρ h => (f ρ h).bind fun s h1 => if sizeOk s.items.length then lcLoop s.good (lcTurn t pt pe ρ) s.items [] h1 else .bad) := by
  refine (pe_lc (g := gD X.K t t.slots) (tt := tG X.K rB pt.t) (te := tG X.K (rD X.K) pe.v) hc hN hi ok (fun s H C cl fp => (hg s H C cl fp).run) ht he hs).imp fun σ H Q q => ?_
  rw [hown]
  exact lc_read q
end
end PV
end

section
set_option maxRecDepth 100000
/-! PvY: a caught exception that stays known: the clause's name, its field, isinstance of it. -/
namespace PV
open PySem PySem.Spec PyProof.Rows L2 PV
theorem exD_ok {P : Program} {w : World} {H : Hp} {hp : Heap} {a : Addr} {cls : Value} {d : Option Addr} {ob : Obj} {fl : Array Value} (q : hp.get? a = some ob) (z : Zc cls d ob) (r : ob.data = .fields fl) : ObjOk P w H hp a (ExD cls d a) :=
  ⟨⟨ob, fl, q, z, r⟩, ⟨ob, q⟩, fun _ _ ⟨ob2, fl2, q2, z2, r2⟩ keep => ⟨ob2, fl2, keep ob2 q2, z2, r2⟩⟩
section
variable {X : Cx} {pins : List (Addr × Obj)} {σ : L2.St} {H : Hp} {s t : Shared} {a : Addr} {cls : Value} {d : Option Addr} {B : Heap}
/-- the exception as it lies before a clause -/
structure Seen (X : Cx) (pins : List (Addr × Obj)) (σ : L2.St) (H : Hp) (t : Shared) (a : Addr) (cls : Value) (d : Option Addr) : Prop where
  inv : L2.Inv X pins σ H t
  obj : ∃ ob fl, t.heap.get? a = some ob ∧ Zc cls d ob ∧ ob.data = .fields fl
  na : H a = none
  nL : a ≠ X.env.locals
  nF : a ∉ X.fs
  n0 : ∀ o, X.s_0.heap.get? a = some o → a ∈ X.ex
  nc : ∀ x c, X.env.cells.lookup x = some c → c ≠ a
  np : ∀ p ∈ X.pn ++ pins, p.1 ≠ a
theorem seen_of (I : L2.Inv X pins σ H s) (stk : X.stack = X.env :: X.outer) (frm : X.env.frame = some X.env.locals) (gr : ∀ b o, s.heap.get? b = some o → b ∉ frs X.stack → B.get? b = some o) (fly : HandSPX.FlyingZ B (X.env :: X.outer) a (Zc cls d) t.heap)
    (up : s.heap.UpToSlots t.heap) (os : t.os = s.os) (ag : AllBare t.gens) (na : H a = none) : Seen X pins σ H t a cls d := by
  have lies := fly.there
  obtain ⟨ob, fl, q, z, r⟩ := fly.there
  have out : a ∉ frs (X.env :: X.outer) := by
    intro mem
    (obtain ⟨_, ob2, q2, no⟩ := fly.2.2.1.mem mem)
    (cases q.symm.trans q2)
    exact no fl r
  have gone : s.heap.get? a = none := by
    cases e : s.heap.get? a with
    | none => rfl
    | some ob2 =>
      have e2 := gr a ob2 e (by rw [stk]; exact out)
      (cases fly.2.1.symm.trans e2)
  have new : ∀ {b : Addr} {o : Obj}, s.heap.get? b = some o → b ≠ a := fun {b o} e z => by
    (rw [z, gone] at e)
    cases e
  refine ⟨I.landed gr fly.1 up os ag, lies, na, ?_, ?_, ?_, ?_, ?_⟩
  · intro z
    exact out (List.mem_filterMap.mpr ⟨X.env, .head _, by rw [frm, z]⟩)
  · intro mem
    (obtain ⟨en, m1, m2⟩ := List.mem_filterMap.mp mem)
    exact out (List.mem_filterMap.mpr ⟨en, .tail _ m1, m2⟩)
  · intro o e
    by_cases hx : a ∈ X.ex
    · exact hx
    · (obtain ⟨o2, e2⟩ := I.base.there a o e hx)
      cases gone.symm.trans e2
  · intro x c e
    (obtain ⟨v, o2, e2, _⟩ := I.cell x c e)
    exact new e2
  · exact fun p hp => new (I.pin p hp).1
/-- .. tracked from now on -/
theorem Seen.known (S : Seen X pins σ H t a cls d) : L2.Inv X pins σ (upd H a (ExD cls d a)) t := by
  (obtain ⟨I, ⟨ob, fl, q, z, r⟩, na, nL, nF, n0, nc, np⟩ := S)
  have un : ∀ {b : Addr}, b ≠ a → upd H a (ExD cls d a) b = H b := fun ne => upd_ne ne
  have ne : ∀ {b : Addr} {o : HO}, H b = some o → b ≠ a := fun e => ne_of_none e na
  constructor
  · exact I.ok
  · exact I.os
  · exact I.bare
  · have U := I.base
    constructor
    · exact U.keep
    · exact U.slot
    · intro b o e n hx
      have : b ≠ a := by
        rintro rfl
        exact hx (n0 o e)
      rw [un this]
      exact U.free b o e n hx
    · exact U.there
    · intro b xs e
      have e2 := U.tups b xs e
      rw [un (ne e2)]
      exact e2
    · intro b o u e
      have e2 := U.frzs b o u e
      rw [un (ne e2)]
      exact e2
    · intro b ps e
      (obtain ⟨m, e2⟩ := U.tbls b ps e)
      exact ⟨m, by rw [un (ne e2)]; exact e2⟩
  · exact I.loc
  · exact I.cell
  · rw [un nL.symm]
    exact I.free
  · intro x c e
    rw [un (nc x c e)]
    exact I.freeC x c e
  · intro p hp
    (obtain ⟨p1, p2, p3⟩ := I.pin p hp)
    exact ⟨p1, by rw [un (np p hp)]; exact p2, p3⟩
  · exact I.hok.laidN (fun _ _ e => e) na (exD_ok q z r)
  · exact I.len
/-- into a suite, nothing pinned anew; and out of it -/
theorem in_suite (I : L2.Inv X pins σ H t) : L2.Inv (X.suite a (X.pn ++ pins)) [] σ H t :=
  ⟨I.ok.suite _ _, I.os, I.bare, I.base, I.loc, I.cell, I.free, I.freeC, fun p hp => I.pin p (by simpa using hp), I.hok, I.len⟩
theorem off_suite {pi : List (Addr × Obj)} (k : X.Ok) (I : L2.Inv (X.suite a (X.pn ++ pins)) pi σ H t) : L2.Inv X pins σ H t :=
  ⟨k, I.os, I.bare, I.base, I.loc, I.cell, I.free, I.freeC, fun p hp => I.pin p (List.mem_append_left _ hp), I.hok, I.len⟩
end

/-- what 'except x as n' wishes of the body's exception: slot i is n's, the exception is tracked in the suite and behind it -/
def wKeep (K : PySem.W.Frag) (c : Value) (i : Nat) (ts : TS) (Wo : WX) (D : Ends) : WX := fun cls d σ H => ∃ b, PySem.W.exmOne K cls c = some b ∧ (b = false → Wo cls d σ H) ∧
  (b = true → ∀ a, H a = none → ts ⟨fun σ' H' => D.nx (σ'.set i none) H', D.rt, fun σ' H' => D.bk (σ'.set i none) H', fun σ' H' => D.ct (σ'.set i none) H'⟩ (σ.set i (some (.ref a))) (upd H a (ExD cls d a)))
section
variable {X : Cx} {x n : Str} {c : Value} {i : Nat} {body rest : List Stmt} {one : Stmt} {np pos cp : Pos} {ts : TS} {Wo : WX} {pins : List (Addr × Obj)} {D : Ends} {s : Shared} {u : Value} {σ : L2.St} {H : Hp}
/-- from the suite's end to the statement's -/
theorem keep_end {a : Addr} {f : Flow} (nd : X.N.Nodup) (hi : X.N[i]? = some n) (hn : X.env.kindOf n = some .local) (k : X.Ok)
    (q : SP (X.suite a (X.pn ++ pins)) [] ⟨fun σ' H' => D.nx (σ'.set i none) H', D.rt, fun σ' H' => D.bk (σ'.set i none) H', fun σ' H' => D.ct (σ'.set i none) H'⟩ f s) :
    wpAny (model X.prog X.w) X.A (do bindName X.env n .none; unbindBehindTheSuite X.env n cp) (fun _ s' => SP X pins D f s') X.xe s := by
  cases f with
  | ret v =>
    (obtain ⟨w, σ1, H1, I1, rv, q1⟩ := q)
    exact gone_ok (off_suite k I1) nd hi hn fun s' I2 => ⟨w, _, _, I2, rv, q1⟩
  | next =>
    (obtain ⟨σ1, H1, I1, q1⟩ := q)
    exact gone_ok (off_suite k I1) nd hi hn fun s' I2 => ⟨_, _, I2, q1⟩
  | brk =>
    (obtain ⟨σ1, H1, I1, q1⟩ := q)
    exact gone_ok (off_suite k I1) nd hi hn fun s' I2 => ⟨_, _, I2, q1⟩
  | cont =>
    (obtain ⟨σ1, H1, I1, q1⟩ := q)
    exact gone_ok (off_suite k I1) nd hi hn fun s' I2 => ⟨_, _, I2, q1⟩
/-- from the throw to the clauses -/
def hitP (X : Cx) (pins : List (Addr × Obj)) (D : Ends) (hs : List ExceptHandler) : Value → Shared → Prop := fun e s1 =>
  wpAny (model X.prog X.w) X.A (noteFrame e X.env) (fun _ s2 => wpAny (model X.prog X.w) X.A (setFlight e none) (fun _ s3 => wpAny (model X.prog X.w) X.A (handleBy e X.env hs) (SP X pins D) X.xe s3) X.xe s2) X.xe s1
theorem keep_hit (stk : X.stack = X.env :: X.outer) (frm : X.env.frame = some X.env.locals) (nd : X.N.Nodup) (hi : X.N[i]? = some n) (hn : X.env.kindOf n = some .local) (named : Names X x c) (tk : Takes X Wo) (kx : X.Ok)
    (hsu : ∀ (a : Addr) (pn : List (Addr × Obj)), PSs (X.suite a pn) (one :: rest) ts) (t : XE (X.tr (X.pn ++ pins) (hitP X pins D [.ExceptHandler (some (.Name x np)) (some n) (one :: rest) cp])) (wKeep X.K c i ts Wo D) u s) :
    hitP X pins D [.ExceptHandler (some (.Name x np)) (some n) (one :: rest) cp] u s := by
  (obtain ⟨a, B, t0, pins2, σ1, H1, cls, d, eu, I0, gr, up0, sky, na, os, ag, b, em, no, yes⟩ := t)
  subst eu
  have I : L2.Inv X pins σ1 H1 t0 := I0.ofTry kx
  have frs1 : X.A.frames = some (X.env :: X.outer) := kx.frames.trans (congrArg some stk)
  have sky1 : Sky B (X.env :: X.outer) a (Zc cls d) X.env.locals s.heap := stk ▸ sky
  unfold hitP
  refine Sky.land Zc.steady frs1 frm sky1 fun hp fly up1 => ?_
  have sn : Seen X pins σ1 H1 { s with heap := hp } a cls d := seen_of I stk frm gr fly (up0.trans up1) os ag na
  (obtain ⟨ob, fl, q, z, r⟩ := sn.obj)
  have ins := in_suite (a := a) sn.inv
  have cl : PySem.W.Looks (model X.prog X.w) hp (typeOf (.ref a)) cls := fun _ _ _ _ keep hq => wpAny_typeOf_ref (keep _ _ q) (by rw [z.1]; exact hq)
  refine wpAny_handleBy_cons (codeAny_handlers_test ?_) (fun z => nomatch z)
  have name : ∀ {Q : Value → Shared → Prop} {E : Value → Shared → Prop}, Q c { s with heap := hp } → wpAny (model X.prog X.w) (X.A.mark (some (.ref a))) (eval (.Name x np) X.env) Q E { s with heap := hp } := by
    intro Q E hq
    (obtain ⟨g, nodb, m | ⟨m, bv, nn⟩⟩ := named)
    · exact ld_glob ins g m hq nodb
    · exact ld_blt ins g m bv hq nn nodb
  refine name ((PySem.W.exm_one (M := model X.prog X.w) sn.inv.kIn cl em).here ?_)
  cases b with
  | false =>
    (show wpAny _ X.A (handleBy (.ref a) X.env []) _ _ _)
    refine wpAny_handleBy_nil ?_
    (obtain ⟨_, _, _, ob2, fl2, T, _, _, q2, _, r2, t1, _⟩ := id fly)
    unfold PySem.passOn
    refine wpAny_bind (wpAny_field q2 r2 t1 ?_)
    (rw [if_neg (show ¬ ((Value.ref T == Value.none) = true) from by simp)])
    have last : wpAny (model X.prog X.w) X.A (setFlight (.ref a) X.env.frame) (fun _ s4 => wpAny (model X.prog X.w) X.A (throw (.ref a) : Sem Flow) (SP X pins D) X.xe s4) X.xe { s with heap := hp } := by
      rw [frm]
      refine HandSPX.setFlight_upZ fly fun h4 held up4 => wpAny_throw (tk _ _ ?_)
      exact ⟨a, B, t0, pins, σ1, H1, cls, d, rfl, I, gr, (up0.trans up1).trans up4, .inr (.inr (stk ▸ held)), na, os, ag, no rfl⟩
    exact wpAny_bind last
  | true =>
    refine codeAny_handlers_suite_as (HandSPX.lands_againZ fly fun h4 fly4 up4 => ?_)
    have sn4 : Seen X pins σ1 H1 { s with heap := h4 } a cls d := seen_of I stk frm gr fly4 ((up0.trans up1).trans up4) os ag na
    refine store_ok (X := X.suite a (X.pn ++ pins)) (v := .ref a) (in_suite sn4.known) nd hi (.inl hn) rfl (fun s5 I5 => ?_) (.inr hn)
    refine wpAny_mono ((hsu a (X.pn ++ pins)).run [] s5 _ _ _ I5 (yes rfl a na)) (fun f s6 q6 => ?_) fun _ _ z => z.elim
    have e := keep_end (cp := cp) nd hi hn kx q6
    first
      | exact e
      | (cases f <;> exact e)
theorem ps_try_keep {tb : WX → TS} (stk : X.stack = X.env :: X.outer) (frm : X.env.frame = some X.env.locals) (nd : X.N.Nodup) (hi : X.N[i]? = some n) (hn : X.env.kindOf n = some .local) (named : Names X x c) (tk : Takes X Wo)
    (hb : ∀ (W : WX) (pn : List (Addr × Obj)) (xe : Value → Shared → Prop), Takes (X.tr pn xe) W → PassesOwn (model X.prog X.w) X.A X.env xe → PSs (X.tr pn xe) body (tb W)) (hsu : ∀ (a : Addr) (pn : List (Addr × Obj)), PSs (X.suite a pn) (one :: rest) ts) :
    PS X (.Try body [.ExceptHandler (some (.Name x np)) (some n) (one :: rest) cp] [] [] pos) (fun D σ H => tb (wKeep X.K c i ts Wo D) D σ H) := by
  (refine ⟨fun pins s σ H D I h => wpAny_Try_except ?_⟩)
  have kx := I.ok
  have run := (hb (wKeep X.K c i ts Wo D) (X.pn ++ pins) (hitP X pins D [.ExceptHandler (some (.Name x np)) (some n) (one :: rest) cp]) (fun u s' t => keep_hit stk frm nd hi hn named tk kx hsu t) PassesOwn.looking).run [] s σ H D (I.toTry _) h
  refine wpAny_mono run (fun f s1 q => ?_) fun _ _ z => z
  cases f with
  | ret v =>
    (obtain ⟨w, σ1, H1, I1, rv, q1⟩ := q)
    exact ⟨w, _, _, I1.ofTry kx, rv, q1⟩
  | next =>
    (obtain ⟨σ1, H1, I1, q1⟩ := q)
    exact wpAny_execs_nil ⟨_, _, I1.ofTry kx, q1⟩
  | brk =>
    (obtain ⟨σ1, H1, I1, q1⟩ := q)
    exact ⟨_, _, I1.ofTry kx, q1⟩
  | cont =>
    (obtain ⟨σ1, H1, I1, q1⟩ := q)
    exact ⟨_, _, I1.ofTry kx, q1⟩
end

/-! ### the field, isinstance -/
section
variable {X : Cx}
/-- e.f -/
def tFld (K : PySem.W.Frag) (f : Str) (te : TE) : TE := fun σ H Q => te σ H fun y H1 => ∃ k a b v, XfC K (He.ga K k) ∧ PySem.W.findIn K (.ref (He.ga K k)) f = some none ∧ y = .ref a ∧ H1 a = some (ExD (.ref (He.ga K k)) (some b) a) ∧ H1 b = some (.xd [(f, v)]) ∧ Q v H1
theorem pe_fld {e : Expr} {te : TE} {pos : Pos} {f : Str} (he : PE X e te) (hb : attributeBase e f X.env (eval e X.env) = eval e X.env) : PE X (.Attribute e f pos) (tFld X.K f te) := by
  (refine ⟨fun pins s σ H Q I h => attr_of hb (thn (he.run pins s σ H _ I h) fun u s1 hh => ?_)⟩)
  (obtain ⟨y, H1, I1, ry, k, a, b, v, T, own, ey, ea, eb, q⟩ := hh)
  subst ey
  (cases (show u = Value.ref a from ry))
  (obtain ⟨⟨ob, fl, qa, z, r⟩, _, _⟩ := (I1.hok a _ ea))
  (obtain ⟨mA, ns, rel⟩ := (show ObjOk X.prog X.w H1 s1.heap b (.xd [(f, v)]) from I1.hok b _ eb))
  (obtain ⟨od, ho, hl⟩ := lookIn_ns ns)
  have lk : ([(f, v)] : List (Str × V)).lookup f = some v := by simp [List.lookup]
  (obtain ⟨w, hw, rw_⟩ := RelO.some_of (v := v) (o := mA f) (by rw [← lk]; exact rel f))
  have J : PySem.W.InstAt s1.heap a ob (He.ga X.K k) (some od) := ⟨qa, z.1, by unfold PySem.W.notCls; rw [r] <;> rfl, by rw [z.2]; exact ho⟩
  exact HandSPX.exc_get I1.kIn J T.ga T.gg T.exC (PySem.W.findObj_own T.hdC own rfl (by rw [hl, hw])) (handed_of rw_) ⟨v, H1, I1.tok _, rw_, q⟩
/-- isinstance(e, c) -/
def rIsX (K : PySem.W.Frag) : List V → Hp → VK → Prop := fun xs H Q => ∃ (a : Addr) (k : Str) (c : V) (cv : Value) (b : Bool), xs = [.ref a, c] ∧ H a = some (ExD (.ref (He.ga K k)) none a) ∧ (∀ u, RelV c u → u = cv) ∧ ExcC K (He.ga K k) ∧ PySem.W.kitOne K (.ref (He.ga K k)) cv = some b ∧ Q (.bl b) H
theorem call_isX : CallR X (.builtin "isinstance") (rIsX X.K) := by
  intro pins s σ H xs us Q I r ⟨a, k, c, cv, b, ex, ea, ec, C, e, q⟩
  subst ex
  (obtain ⟨u1, u2, rfl, r1, r2⟩ := vals2 r)
  (cases (show u1 = Value.ref a from r1))
  cases ec _ r2
  (obtain ⟨⟨ob, fl, qa, z, rr⟩, _, _⟩ := (I.hok a _ ea))
  have J : PySem.W.InstAt s.heap a ob (He.ga X.K k) none := ⟨qa, z.1, by unfold PySem.W.notCls; rw [rr] <;> rfl, by rw [z.2]; exact True.intro⟩
  exact PySem.W.kia_one (PySem.W.handS_kitx_exc C.hg C.hk C.hs C.hd C.ha C.hn C.ht C.hm) I.kIn J e (fun z => nomatch z) fun tk => ⟨.bl b, H, I.tok tk, rfl, q⟩
end
end PV
end

section
set_option maxRecDepth 100000
/-! PvQ: enumerate of a tuple, collected into a tuple. -/
namespace PVQ
open PySem
open PySem.Sem (wp)
theorem new_enumT (t : Addr) (items : Array Value) (k : Nat) (dc : Option Addr) (sl : Array (Option Value)) :
    Meets (Builtin.«enumerate.__new__» ⟨[.type "enumerate", .ref t], []⟩) (fun _ R s => s.heap.get? t = some { cls := .type "tuple", dict := dc, data := .seq items k, slots := sl } ∧
      R (.ok (.ret (.ref (s.heap.push { cls := .type "tuple_iterator", data := .fields #[.ref t, .int 0 0] }).objs.size)))
        { s with heap := (s.heap.push { cls := .type "tuple_iterator", data := .fields #[.ref t, .int 0 0] }).push { cls := .type "enumerate", data := .fields #[.none, .bool false, .ref s.heap.objs.size, rawInt 0, .none, .none] } }) :=
  .of_wp fun prog w A R s hyp => by
    obtain ⟨hp, gn, dr, tk, os⟩ := s
    obtain ⟨hget, hR⟩ := hyp
    have sub := sub_enumerate
    have isT : Heap.IsTuple (Shared.heap ⟨hp, gn, dr, tk, os⟩) t items := ⟨_, hget, rfl, k, rfl⟩
    wp_walk using PySem.AutoSeq1.wpAny_loadPart' hget
    (refine wpAny_stack_any fun st => wpAny_pure ?_)
    split
    · rename_i cl _ _ _ _ _
      cases (cl == Value.type "enumerate")
      · wp_walk using PySem.AutoSeq1.wpAny_loadPart' hget, wpAny_pyIter_tuple isT
        exact ⟨_, rfl, hR⟩
      · wp_walk using PySem.AutoSeq1.wpAny_loadPart' hget, wpAny_pyIter_tuple isT
        exact ⟨_, rfl, hR⟩
    · wp_walk using PySem.AutoSeq1.wpAny_loadPart' hget, wpAny_pyIter_tuple isT
      exact ⟨_, rfl, hR⟩
section
variable {w : World} {prog : Program} {A : Around} {E : Value → Shared → Prop} {s : Shared}
theorem call_enumT {t : Addr} {items : Array Value} {Q : Value → Shared → Prop} (ht : s.heap.IsTuple t items)
    (hq : ∀ h', IsEnum h' (s.heap.objs.size + 1) s.heap.objs.size 0 .none → h'.IsTupleIter s.heap.objs.size t 0 → h'.objs.size = s.heap.objs.size + 2 → (∀ b o, s.heap.get? b = some o → h'.get? b = some o) →
      Q (.ref (s.heap.objs.size + 1)) { s with heap := h' }) : wpAny (model prog w) A (call (.type "enumerate") [.ref t]) Q E s := by
  obtain ⟨⟨cl, dc, dt, sl⟩, hget, hc, k, hd⟩ := ht
  cases (show cl = .type "tuple" from hc)
  cases (show dt = .seq items k from hd)
  refine callType_new F.called_enumerate (by decide) (F.typeCall_enumerate_1 _) (F.newCall_enumerate_1 _) (fun ob => F.args_object_init_2 ob _) F.entry_enumerate_new (new_enumT t items k dc sl) ⟨hget, ?_⟩
  have size1 : (s.heap.push { cls := .type "tuple_iterator", data := .fields #[.ref t, .int 0 0] }).objs.size = s.heap.objs.size + 1 := Heap.size_push ..
  show _ ∧ _
  rw [size1]
  have isE : IsEnum ((s.heap.push { cls := .type "tuple_iterator", data := .fields #[.ref t, .int 0 0] }).push { cls := .type "enumerate", data := .fields #[.none, .bool false, .ref s.heap.objs.size, rawInt 0, .none, .none] }) (s.heap.objs.size + 1) s.heap.objs.size 0 .none := by
    have q := Heap.get?_push_size (s.heap.push { cls := .type "tuple_iterator", data := .fields #[.ref t, .int 0 0] }) (o := { cls := .type "enumerate", data := .fields #[.none, .bool false, .ref s.heap.objs.size, rawInt 0, .none, .none] }) rfl
    rwa [size1] at q
  exact ⟨⟨_, isE, rfl⟩, hq _ isE ⟨_, Heap.get?_push_of_some _ (Heap.get?_push_size _ rfl), rfl, rfl⟩ (by rw [Heap.size_push, size1]) fun b o x => Heap.get?_push_of_some _ (Heap.get?_push_of_some _ x)⟩
/-- next while a tuple that was given out is still there -/
theorem next_heldT {e it t T : Addr} {i : Nat} {items : Array Value} {x old : Value} {fl : Bool} {oT : Obj} {Q : Option Value → Shared → Prop}
    (he : IsEnumHeld s.heap e it i old T fl) (hT : s.heap.get? T = some oT) (nTe : T ≠ e) (nTi : T ≠ it) (hi : s.heap.IsTupleIter it t i) (ht : s.heap.IsTuple t items) (hx : items[i]? = some x) (nei : e ≠ it)
    (hq : ∀ h' tk, IsEnumHeld h' e it ((i : Int) + 1) old T true → h'.IsTupleIter it t (i + 1) → h'.get? s.heap.objs.size = some { cls := .type "tuple", data := .seq #[.int i tk, x] } → h'.objs.size = s.heap.objs.size + 1 →
      (∀ b o, b ≠ e → b ≠ it → s.heap.get? b = some o → h'.get? b = some o) →
      Q (some (.ref s.heap.objs.size)) { s with heap := h', toks := tk + 1 }) : wpAny (model prog w) A (pyNext (.ref e)) Q E s := by
  have isTy : s.TypeIs (.ref e) "enumerate" := ⟨_, he, rfl⟩
  unfold pyNext
  refine wpAny_bind (wpAny_attempt (wpAny_callSpecial?_slot (name := Str.ofString "__next__") isTy F.slot_enumerate_next (wpAny_call_entry F.slot_enumerate_next isTy F.entry_enumerate_next ?_ (F.args_enumerate_next_1 _))))
  obtain ⟨hp, gn, dr, tk, os⟩ := s
  (show wpAny _ _ (field (.ref e) 2 >>= _) _ _ _)
  refine wpAny_bind (wpAny_field he rfl (x := .ref it) rfl (wpAny_bind (wpAny_nextOf_tuple_item hi ht hx fun g1 hi1 sb1 => ?_)))
  have sb1 : Heap.SameBut it hp g1 := sb1
  have he1 : IsEnumHeld g1 e it i old T fl := (sb1.2 e nei).trans he
  show wpAny _ _ (field (.ref e) 3 >>= _) _ _ ⟨g1, gn, dr, tk, os⟩
  refine wpAny_bind (wpAny_field he1 rfl (x := rawInt i) rfl ?_)
  show wpAny _ _ (field (.ref e) 4 >>= _) _ _ ⟨g1, gn, dr, tk, os⟩
  refine wpAny_bind (wpAny_field he1 rfl (x := .none) rfl ?_)
  show wpAny _ _ (mkInt i >>= _) _ _ ⟨g1, gn, dr, tk, os⟩
  (refine wpAny_bind (wpAny_mkInt ?_))
  show wpAny _ _ (setField (.ref e) 3 (rawInt ((i : Int) + 1)) >>= _) _ _ ⟨g1, gn, dr, tk + 1, os⟩
  refine wpAny_bind (wpAny_setField_rec he1 (by simp) fun g2 he2 sb2 => ?_)
  have sb2 : Heap.SameBut e g1 g2 := sb2
  have he2 : IsEnumHeld g2 e it ((i : Int) + 1) old T fl := he2
  show wpAny _ _ (setField (.ref e) 4 .none >>= _) _ _ ⟨g2, gn, dr, tk + 1, os⟩
  refine wpAny_bind (wpAny_setField_rec he2 (by simp) fun g3 he3 sb3 => ?_)
  have sb3 : Heap.SameBut e g2 g3 := sb3
  have he3 : IsEnumHeld g3 e it ((i : Int) + 1) old T fl := he3
  show wpAny _ _ (newTuple [.int i tk, x] >>= _) _ _ ⟨g3, gn, dr, tk + 1, os⟩
  (refine wpAny_bind (wpAny_newTuple ?_))
  have sz3 : g3.objs.size = hp.objs.size := by rw [sb3.1, sb2.1, sb1.1]
  have he4 : IsEnumHeld (g3.push { cls := .type "tuple", data := .seq #[.int i tk, x] }) e it ((i : Int) + 1) old T fl := Heap.get?_push_of_some _ he3
  have keep4 : ∀ b o, b ≠ e → b ≠ it → hp.get? b = some o → (g3.push { cls := .type "tuple", data := .seq #[.int i tk, x] }).get? b = some o := fun b o hbe hbi hb =>
    Heap.get?_push_of_some _ (sb3.extBut b o hbe (sb2.extBut b o hbe (sb1.extBut b o hbi hb)))
  have hi4 : (g3.push { cls := .type "tuple", data := .seq #[.int i tk, x] }).IsTupleIter it t (i + 1) := by
    obtain ⟨o, ho, r⟩ := (hi1.extBut sb2.extBut (Ne.symm nei)).extBut sb3.extBut (Ne.symm nei)
    exact ⟨o, Heap.get?_push_of_some _ ho, r⟩
  have new4 : (g3.push { cls := .type "tuple", data := .seq #[.int i tk, x] }).get? hp.objs.size = some { cls := .type "tuple", data := .seq #[.int i tk, x] } := by rw [← sz3]; exact Heap.get?_push_size _ rfl
  have nne : hp.objs.size ≠ e := Nat.ne_of_gt (Heap.lt_size he)
  show wpAny _ _ (Builtin.SmallTypes.ownedTupleIsFree (.ref e) >>= _) _ _ ⟨_, gn, dr, tk + 1, os⟩
  rw [sz3]
  refine wpAny_bind (wpAny_tupleHeld_enum (s := ⟨_, gn, dr, tk + 1, os⟩) he4 (keep4 T oT nTe nTi hT) fun g5 he5 sb5 => ?_)
  have sb5 : Heap.SameBut e _ g5 := sb5
  (simp only [Bool.false_eq_true, if_false])
  (refine wpAny_pure ⟨_, rfl, ?_⟩)
  refine wpAny_pure (hq g5 tk he5 (hi4.extBut sb5.extBut (Ne.symm nei)) (sb5.extBut _ _ nne new4) ?_ fun b o hbe hbi hb => sb5.extBut b o hbe (keep4 b o hbe hbi hb))
  show g5.objs.size = hp.objs.size + 1
  rw [sb5.1, Heap.size_push, sz3]
theorem end_heldT {e it t T : Addr} {i : Nat} {items : Array Value} {old : Value} {fl : Bool} {Q : Option Value → Shared → Prop} (hh : A.handled = none) (he : IsEnumHeld s.heap e it i old T fl) (hi : s.heap.IsTupleIter it t i) (ht : s.heap.IsTuple t items) (hx : items[i]? = none)
    (hq : ∀ h', Heap.ExtBut it s.heap h' → Q none { s with heap := h' }) : wpAny (model prog w) A (pyNext (.ref e)) Q E s := by
  have isTy : s.TypeIs (.ref e) "enumerate" := ⟨_, he, rfl⟩
  unfold pyNext
  refine wpAny_bind (wpAny_attempt (wpAny_callSpecial?_slot (name := Str.ofString "__next__") isTy F.slot_enumerate_next (wpAny_call_entry F.slot_enumerate_next isTy F.entry_enumerate_next ?_ (F.args_enumerate_next_1 _))))
  (show wpAny _ _ (field (.ref e) 2 >>= _) _ _ _)
  refine wpAny_bind (wpAny_field he rfl (x := .ref it) rfl (wpAny_bind (wpAny_nextOf_tuple_end hh hi ht hx fun h' y ex ey => ?_)))
  obtain ⟨o, ho, hc⟩ := ey
  exact wpAny_bind (wpAny_isInstance (T := "StopIteration") (b := true) ⟨o, ho, hc⟩ isSubtype_stop (wpAny_pure (hq _ ex)))

/-! ### the loop that collects the pairs -/
structure Pairs (items : Array Value) (e it S : Addr) (acc : Array Value) (h : Heap) : Prop where
  at_ : ∀ (j : Nat) (v : Value), acc[j]? = some v → ∃ (T : Addr) (tk : Tok) (x : Value), v = .ref T ∧ items[j]? = some x ∧ h.get? T = some { cls := .type "tuple", data := .seq #[.int (j : Int) tk, x] } ∧ T ≠ e ∧ T ≠ it ∧ T ≠ S ∧ e < T
structure At (items : Array Value) (e it t S : Addr) (i : Nat) (acc : Array Value) (c : Nat) (h : Heap) : Prop where
  en : (i = 0 ∧ ∃ old, IsEnum h e it 0 old) ∨ ∃ (old : Value) (T : Addr) (fl : Bool) (oT : Obj), IsEnumHeld h e it (i : Int) old T fl ∧ h.get? T = some oT ∧ T ≠ e ∧ T ≠ it ∧ T ≠ S
  ti : h.IsTupleIter it t i
  tp : h.IsTuple t items
  ls : h.get? S = some { cls := .type "list", dict := none, data := .seq acc c, slots := #[] }
  sz : acc.size = i
  ps : Pairs items e it S acc h
theorem nextT (hh : A.handled = none) {items : Array Value} {e it t S : Addr} {i c : Nat} {acc : Array Value} (n1 : e ≠ it) (n2 : t ≠ it) (n3 : t ≠ e) (a : At items e it t S i acc c s.heap) (hlt : i < items.size) {Q : Option Value → Shared → Prop}
    (hq : ∀ (g : Heap) (tk : Tok), (∃ (old : Value) (T : Addr) (fl : Bool) (oT : Obj), IsEnumHeld g e it ((i + 1 : Nat) : Int) old T fl ∧ g.get? T = some oT ∧ T ≠ e ∧ T ≠ it ∧ T ≠ S) → g.IsTupleIter it t (i + 1) → g.IsTuple t items →
      g.get? s.heap.objs.size = some { cls := .type "tuple", data := .seq #[.int (i : Int) tk, items[i]] } → (∀ b o, b ≠ e → b ≠ it → s.heap.get? b = some o → g.get? b = some o) → Q (some (.ref s.heap.objs.size)) { s with heap := g, toks := tk + 1 }) :
    (wpAny (model prog w) A (pyNext (.ref e)) Q E s) := by
  obtain ⟨oi, goi, _⟩ := id a.ti
  have z1 : s.heap.objs.size ≠ it := Nat.ne_of_gt (Heap.lt_size goi)
  have z3 : s.heap.objs.size ≠ S := Nat.ne_of_gt (Heap.lt_size a.ls)
  rcases a.en with ⟨i0, old, he⟩ | ⟨old, T, fl, oT, he, hT, m1, m2, m3⟩
  · have z4 : s.heap.objs.size ≠ e := Nat.ne_of_gt (Heap.lt_size he)
    subst i0
    refine wpAny_pyNext_enum_itemD (Draws.tuple (A := A.in1) hh it t n2 items) he ⟨a.ti, a.tp⟩ hlt n1 (fun hm => ?_) fun x g tk hP ho hs2 new _ keep => ?_
    · rcases List.mem_cons.mp hm with z | z
      · exact n1 z
      · exact n3 (List.mem_singleton.mp z).symm
    · have hx : items[0] = x := by rw [Array.getElem?_eq_getElem hlt] at hP; exact Option.some.inj hP
      subst hx
      exact hq g tk ⟨_, _, false, _, ho, new, z4, z1, z3⟩ hs2.1 hs2.2 new keep
  · refine next_heldT he hT m1 m2 a.ti a.tp (Array.getElem?_eq_getElem hlt) n1 fun g tk ho hi2 new _ keep => ?_
    exact hq g tk ⟨_, T, true, oT, ho, keep T _ m1 m2 hT, m1, m2, m3⟩ hi2 (a.tp.at fun o q => keep t o n3 n2 q) new keep
theorem loopT (hh : A.handled = none) {items : Array Value} {e it t S : Addr} (n1 : e ≠ it) (n2 : t ≠ it) (n3 : t ≠ e) (n4 : S ≠ e) (n5 : S ≠ it) (n6 : S ≠ t) (hz : items.size ≤ sizeLine) (res : Value) {R : Result → Shared → Prop} :
    ∀ (k i : Nat) (s : Shared) (acc : Array Value) (c : Nat), items.size - i = k → i ≤ items.size → At items e it t S i acc c s.heap →
    (∀ (h' : Heap) (tk' : Tok) (acc' : Array Value) (c' : Nat), acc'.size = items.size → Pairs items e it S acc' h' → h'.get? S = some { cls := .type "list", dict := none, data := .seq acc' c', slots := #[] } → (∀ b o, b ≠ e → b ≠ it → b ≠ S → s.heap.get? b = some o → h'.get? b = some o) →
      R (.ok (.ret res)) { s with heap := h', toks := tk' }) → codeAny (model prog w) A (.builtin "list.extend.loop" ⟨[.ref S, .ref e, res], []⟩) R s := by
  intro k
  induction k with
  | zero =>
    intro i s acc c hk hi a hR
    have e0 : i = items.size := by omega
    subst e0
    (refine codeAny_builtin F.entry_extend_loop ?_)
    (rw [Around.under_plainId F.plain_extend_loop _])
    show wpAny _ A.in1 (pyNext (.ref e) >>= _) _ _ s
    have stop : ∀ h', Heap.ExtBut it s.heap h' → R (.ok (.ret res)) { s with heap := h' } := fun h' x =>
      hR h' s.toks acc c a.sz ⟨fun j v hv => let ⟨T, tk, y, q1, q2, q3, q4, q5, q6⟩ := a.ps.at_ j v hv; ⟨T, tk, y, q1, q2, x T _ q5 q3, q4, q5, q6⟩⟩ (x S _ n5 a.ls) fun b o _ hb _ q => x b o hb q
    rcases a.en with ⟨i0, old, he⟩ | ⟨old, T, fl, oT, he, hT, m1, m2, m3⟩
    · exact wpAny_bind (wpAny_pyNext_enum_endD (Draws.tuple (A := A.in1.in1) hh it t n2 items) he ⟨a.ti, a.tp⟩ fun h' x => wpAny_pure (stop h' x))
    · exact wpAny_bind (end_heldT hh he a.ti a.tp (by simp) fun h' x => wpAny_pure (stop h' x))
  | succ k ih =>
    intro i s acc c hk hi a hR
    (have hlt : i < items.size := by omega)
    (refine codeAny_builtin F.entry_extend_loop ?_)
    (rw [Around.under_plainId F.plain_extend_loop _])
    show wpAny _ A.in1 (pyNext (.ref e) >>= _) _ _ s
    obtain ⟨oi, goi, _⟩ := a.ti
    obtain ⟨ot, got, _⟩ := a.tp
    have z1 : s.heap.objs.size ≠ it := Nat.ne_of_gt (Heap.lt_size goi)
    have z2 : s.heap.objs.size ≠ t := Nat.ne_of_gt (Heap.lt_size got)
    have z3 : s.heap.objs.size ≠ S := Nat.ne_of_gt (Heap.lt_size a.ls)
    have z5 : e < s.heap.objs.size := by
      rcases a.en with ⟨_, old, he⟩ | ⟨old, T, fl, oT, he, _⟩
      · exact Heap.lt_size he
      · exact Heap.lt_size he
    have z4 : s.heap.objs.size ≠ e := Nat.ne_of_gt z5
    refine wpAny_bind (nextT (A := A.in1) (show A.in1.handled = none from hh) n1 n2 n3 a hlt fun g tk en hi2 ht2 new keep => ?_)
    have ls2 := keep S _ n4 n5 a.ls
    show wpAny _ A.in1 (updateSeq S (·.push (.ref s.heap.objs.size)) >>= _) _ _ _
    refine wpAny_bind ?_
    refine wpAny_updateSeq ls2 rfl (wpAny_pure ⟨plainId_quiet F.plain_extend_loop _, ih (i + 1) _ (acc.push (.ref s.heap.objs.size)) _ (by omega) hlt ⟨.inr ?_, ?_, ?_, Heap.get?_update_self _ ls2 rfl, by rw [Array.size_push, a.sz], ⟨fun j v hv => ?_⟩⟩ fun h' tk' acc' c' q1 q2 q3 q4 => ?_⟩)
      (by rw [a.sz]; omega) (by show (acc.push (.ref s.heap.objs.size)).size ≤ sizeLine + 1; rw [Array.size_push, a.sz]; omega)
    · obtain ⟨old, T, fl, oT, r1, r2, r3, r4, r5⟩ := en
      exact ⟨old, T, fl, oT, (Heap.get?_update_other _ _ n4).trans r1, (Heap.get?_update_other _ _ (Ne.symm r5)).trans r2, r3, r4, r5⟩
    · exact hi2.at fun o q => (Heap.get?_update_other _ _ n5).trans q
    · exact ht2.at fun o q => (Heap.get?_update_other _ _ n6).trans q
    · rw [Array.getElem?_push] at hv
      split at hv
      · rename_i ej
        rw [a.sz] at ej
        cases hv
        subst ej
        exact ⟨_, tk, items[j], rfl, Array.getElem?_eq_getElem hlt, (Heap.get?_update_other _ _ (Ne.symm z3)).trans new, z4, z1, z3, z5⟩
      · obtain ⟨T, tk2, y, r1, r2, r3, r4, r5, r6, r7⟩ := a.ps.at_ j v hv
        exact ⟨T, tk2, y, r1, r2, (Heap.get?_update_other _ _ (Ne.symm r6)).trans (keep T _ r4 r5 r3), r4, r5, r6, r7⟩
    · exact hR h' tk' acc' c' q1 q2 q3 fun b o b1 b2 b3 q => q4 b o b1 b2 b3 ((Heap.get?_update_other _ _ (Ne.symm b3)).trans (keep b o b1 b2 q))

theorem nolen_en : typeLookup (.type "enumerate") "__len__" = pure none := by rw [typeLookup_type, builtinLookup_eq_fast]; kernel_rfl
theorem nohint_en : typeLookup (.type "enumerate") "__length_hint__" = pure none := by rw [typeLookup_type, builtinLookup_eq_fast]; kernel_rfl
theorem collectT (hh : A.handled = none) {items : Array Value} {e it t : Addr} {old : Value} (n1 : e ≠ it) (n2 : t ≠ it) (n3 : t ≠ e) (hz : items.size ≤ sizeLine) (he : IsEnum s.heap e it 0 old) (hi : s.heap.IsTupleIter it t 0) (ht : s.heap.IsTuple t items) {Q : List Value → Shared → Prop}
    (hQ : ∀ (h' : Heap) (tk' : Tok) (acc : Array Value), acc.size = items.size → (∀ (j : Nat) (v : Value), acc[j]? = some v → ∃ (T : Addr) (tk : Tok) (x : Value), v = .ref T ∧ items[j]? = some x ∧ h'.get? T = some { cls := .type "tuple", data := .seq #[.int (j : Int) tk, x] } ∧ e < T) →
      (∀ b o, b ≠ e → b ≠ it → s.heap.get? b = some o → h'.get? b = some o) → s.heap.objs.size < h'.objs.size → Q acc.toList { s with heap := h', toks := tk' }) : wpAny (model prog w) A (collect (.ref e)) Q E s := by
  obtain ⟨oi, goi, _⟩ := id hi
  obtain ⟨ot, got, _⟩ := id ht
  have le := Heap.lt_size he
  have li := Heap.lt_size goi
  have lt := Heap.lt_size got
  unfold collect
  refine wpAny_bind (wpAny_runValue (codeAny_builtin F.entry_proto_collect ?_)); rw [Around.under_plainId F.plain_proto_collect _]
  show wpAny _ A.in1 (newList [] >>= fun l => again (.builtin "list.__iadd__" ⟨[l, .ref e], []⟩)) _ _ s
  refine wpAny_bind (wpAny_newObj_type (wpAny_pure ⟨plainId_quiet F.plain_list_iadd _, codeAny_builtin F.entry_list_iadd ?_⟩)); rw [Around.under_plainId F.plain_list_iadd _]
  let g0 := s.heap.push { cls := .type "list", data := .seq ([] : List Value).toArray }
  have k0 : ∀ b o, s.heap.get? b = some o → g0.get? b = some o := fun b o q => Heap.get?_push_of_some _ q
  have he0 : IsEnum g0 e it 0 old := k0 _ _ he
  have isTy : ({ s with heap := g0 } : Shared).TypeIs (.ref e) "enumerate" := ⟨_, he0, rfl⟩
  show wpAny _ A.in1 (Builtin.List.listExtendWith (.ref s.heap.objs.size) (.ref e) (.ref s.heap.objs.size)) _ _ _
  (unfold Builtin.List.listExtendWith)
  refine wpAny_bind (wpAny_typeOf isTy ?_)
  have q1 : Builtin.List.listSameRef (.ref s.heap.objs.size) (.ref e) = false := by simp [Builtin.List.listSameRef, Nat.ne_of_gt le]
  have q2 : (Value.type "enumerate" == Value.type "list") = false := by decide
  have q3 : (Value.type "enumerate" == Value.type "tuple") = false := by decide
  simp only [q1, q2, q3, Bool.or_false, Bool.false_eq_true, if_false]
  refine wpAny_bind (wpAny_pyIter_enum he0 (wpAny_bind (wpAny_holding ?_)))
  (unfold Builtin.List.listLengthHint)
  refine wpAny_bind (wpAny_specialOf isTy nolen_en ?_)
  show wpAny _ A.in1 (specialOf (Value.ref e) (Str.ofString "__length_hint__") >>= _) _ _ _
  refine wpAny_bind (wpAny_specialOf isTy nohint_en (wpAny_pure ?_))
  show wpAny _ A.in1 (rule "list.extend.makes-room" >>= fun _ => Builtin.List.listTouch (.ref s.heap.objs.size) >>= fun _ => again (.builtin "list.extend.loop" ⟨[.ref s.heap.objs.size, .ref e, .ref s.heap.objs.size], []⟩)) _ _ _
  have hS : g0.get? s.heap.objs.size = some { cls := .type "list", data := .seq ([] : List Value).toArray } := Heap.get?_push_size _ rfl
  (refine wpAny_bind (wpAny_rule (wpAny_bind ?_)))
  (show wpAny _ A.in1 (updateSeq s.heap.objs.size (·.push .none) >>= fun _ => updateSeq s.heap.objs.size (·.pop)) _ _ _)
  have hS2 := Heap.get?_update_self (Obj.mapSeq (·.push Value.none)) hS rfl
  have hS3 := Heap.get?_update_self (Obj.mapSeq (·.pop)) hS2 rfl
  refine wpAny_bind (wpAny_updateSeq hS rfl (wpAny_updateSeq hS2 rfl ?_))
  have oth : ∀ b o, b ≠ s.heap.objs.size → g0.get? b = some o → ((g0.update s.heap.objs.size (Obj.mapSeq (·.push Value.none))).update s.heap.objs.size (Obj.mapSeq (·.pop))).get? b = some o :=
    fun b o hb q => (Heap.get?_update_other _ _ (Ne.symm hb)).trans ((Heap.get?_update_other _ _ (Ne.symm hb)).trans q)
  have ne := Nat.ne_of_lt le
  have ni := Nat.ne_of_lt li
  have nt := Nat.ne_of_lt lt
  refine wpAny_pure ⟨plainId_quiet F.plain_extend_loop _, loopT (A := A) hh n1 n2 n3 (Ne.symm ne) (Ne.symm ni) (Ne.symm nt) hz (.ref s.heap.objs.size) items.size 0 _ _ _ (Nat.sub_zero _) (Nat.zero_le _)
    ⟨.inl ⟨rfl, old, oth e _ ne he0⟩, hi.at fun o q => oth it o ni (k0 _ _ q), ht.at fun o q => oth t o nt (k0 _ _ q), hS3, rfl, ⟨fun j v hv => by simp at hv⟩⟩ fun h' tk' acc c' r1 r2 r3 r4 => ?_⟩
  (show wpAny _ A (load s.heap.objs.size >>= _) _ _ _)
  refine wpAny_bind (wpAny_load r3 (wpAny_pure (hQ h' tk' acc r1 (fun j v hv => ?_) (fun b o b1 b2 q => ?_) (Heap.lt_size r3))))
  · obtain ⟨T, tk, x, p1, p2, p3, _, _, _, p4⟩ := r2.at_ j v hv
    exact ⟨T, tk, x, p1, p2, p3, p4⟩
  · have nb : b ≠ s.heap.objs.size := Nat.ne_of_lt (Heap.lt_size q)
    exact r4 b o b1 b2 nb (oth b o nb (k0 b o q))
/-- tuple(e) -/
theorem call_tupleT (hh : A.handled = none) {items : Array Value} {e it t : Addr} {old : Value} (n1 : e ≠ it) (n2 : t ≠ it) (n3 : t ≠ e) (hz : items.size ≤ sizeLine) (he : IsEnum s.heap e it 0 old) (hi : s.heap.IsTupleIter it t 0) (ht : s.heap.IsTuple t items) {Q : Value → Shared → Prop}
    (hQ : ∀ (h' : Heap) (tk' : Tok) (acc : Array Value), acc.size = items.size → (∀ (j : Nat) (v : Value), acc[j]? = some v → ∃ (T : Addr) (tk : Tok) (x : Value), v = .ref T ∧ items[j]? = some x ∧ h'.get? T = some { cls := .type "tuple", data := .seq #[.int (j : Int) tk, x] } ∧ e < T) →
      (∀ b o, b ≠ e → b ≠ it → s.heap.get? b = some o → h'.get? b = some o) → s.heap.objs.size < h'.objs.size → Q (.ref h'.objs.size) { s with heap := h'.push { cls := .type "tuple", data := .seq acc }, toks := tk' }) : wpAny (model prog w) A (call (.type "tuple") [.ref e]) Q E s := by
  have isTy : s.TypeIs (.ref e) "enumerate" := ⟨_, he, rfl⟩
  have core : codeAny (model prog w) A.in1 (.call (.builtin "tuple.__new__") ⟨[.type "tuple", .ref e], []⟩) (wants (fun obj s1 => s1.TypeIs obj "tuple" ∧ Q obj s1) E) s := by
    refine codeAny_of_tree ?_
    show wpAny _ A.in1.in1 (do checkBuiltinCall "tuple.__new__" ⟨[.type "tuple", .ref e], []⟩; again (.builtin "tuple.__new__" ⟨[.type "tuple", .ref e], []⟩)) _ _ s
    refine wpAny_bind (wpAny_of_eq (F.newCall_tuple_1 _) (wpAny_pure ⟨plainId_quiet F.plain_tuple_new _, codeAny_builtin F.entry_tuple_new ?_⟩)); rw [Around.under_plainId F.plain_tuple_new _]
    have u1 := sub_tuple_self
    have u2 := init_tuple_lookup
    have u3 := madeHere_tuple
    wp_walk using wpAny_typeOf isTy, collectT (s := s) (A := A.in1.in1) (show A.in1.in1.handled = none from hh) n1 n2 n3 hz he hi ht
    intro h' tk' acc r1 r2 r3 r4
    (show wpAny _ _ (Builtin.Tuple.tupleExact acc.toList.toArray >>= fun v => ret v) _ _ _)
    (unfold Builtin.Tuple.tupleExact)
    have ea : acc.toList.toArray = acc := by simp
    rw [ea]
    refine wpAny_bind (wpAny_newObj_type (wpAny_pure ?_) (by show acc.size ≤ sizeLine; rw [r1]; exact hz))
    exact ⟨⟨_, Heap.get?_push_size _ rfl, rfl⟩, hQ h' tk' acc r1 r2 r3 r4⟩
  refine callType_codes (Q₁ := fun obj s1 => s1.TypeIs obj "tuple" ∧ Q obj s1) F.called_tuple (F.typeCall_tuple_1 _) F.entry_object_init core fun obj s1 h1 => ?_
  exact ⟨h1.1, F.args_object_init_2 obj _, object_init_meets F.called_tuple.init.lookup F.called_tuple.made (by decide) prog w A.in1 _ s1 ⟨h1.1, rfl, h1.2⟩⟩
end
end PVQ
end

section
set_option maxRecDepth 100000
namespace PV
open L2 PySem PySem.Spec PyProof.Rows
def pairsV (n : Nat) : List V → List (List V)
  | [] => []
  | v :: vs => [.int (n : Int), v] :: pairsV (n + 1) vs
theorem build_ps {h : Heap} {e : Addr} : ∀ {vs : List V} {its accl : List Value} {n : Nat}, Vals vs its → accl.length = its.length →
    (∀ (j : Nat) (v : Value), accl[j]? = some v → ∃ (T : Addr) (tk : Tok) (x : Value), v = .ref T ∧ its[j]? = some x ∧ h.get? T = some { cls := .type "tuple", data := .seq #[.int ((n + j : Nat) : Int) tk, x] } ∧ e < T) →
    ∃ ps : List (Addr × List V), accl = ps.map (fun p => Value.ref p.1) ∧ ps.map (·.2) = pairsV n vs ∧ (∀ p ∈ ps, e < p.1 ∧ p.2.length ≤ 2 ∧ ∃ us : List Value, Vals p.2 us ∧ IsTup h p.1 us.toArray) ∧ (ps.map (·.1)).Nodup ∧
      ∀ p ∈ ps, ∃ (j : Nat) (tk : Tok) (x : Value), n ≤ j ∧ h.get? p.1 = some { cls := .type "tuple", data := .seq #[.int (j : Int) tk, x] }
  | _, _, [], n, .nil, _, _ => ⟨[], rfl, rfl, fun p hp => (by cases hp), List.nodup_nil, fun p hp => (by cases hp)⟩
  | _, _, _ :: _, _, .nil, hl, _ => by cases hl
  | _, _, [], _, .cons _ _, hl, _ => by cases hl
  | v :: vs, it :: its, a :: accl, n, .cons r t, hl, hh => by
    obtain ⟨T, tk, x, e1, e2, e3, e4⟩ := hh 0 a rfl
    have e2 : it = x := by simpa using e2
    subst e1 e2
    obtain ⟨ps, q1, q2, q3, q4, q5⟩ := build_ps (h := h) (e := e) (n := n + 1) t (Nat.succ.inj hl) fun j w hw => by
      obtain ⟨T', tk', x', p1, p2, p3, p4⟩ := hh (j + 1) w (by simpa using hw)
      exact ⟨T', tk', x', p1, by simpa using p2, by rw [show n + 1 + j = n + (j + 1) by omega]; exact p3, p4⟩
    refine ⟨(T, [.int (n : Int), v]) :: ps, by rw [q1]; rfl, by rw [List.map_cons, q2]; rfl, fun p hp => ?_, ?_, fun p hp => ?_⟩
    · (rcases List.mem_cons.mp hp with rfl | hp)
      · exact ⟨e4, Nat.le_refl _, [.int (n : Int) tk, it], .cons ⟨tk, rfl⟩ (.cons r .nil), ⟨_, e3, rfl, _, rfl⟩⟩
      · exact q3 p hp
    · rw [List.map_cons, List.nodup_cons]
      refine ⟨fun hm => ?_, q4⟩
      obtain ⟨p, hp, e0⟩ := List.mem_map.mp hm
      obtain ⟨j, tk2, x2, hj, g2⟩ := q5 p hp
      have e0 : p.1 = T := e0
      rw [e0, e3] at g2
      have := congrArg (fun o : Option Obj => o.map (·.data)) g2
      simp at this
      omega
    · (rcases List.mem_cons.mp hp with rfl | hp)
      · exact ⟨n, tk, it, Nat.le_refl _, e3⟩
      · obtain ⟨j, tk2, x2, hj, g2⟩ := q5 p hp
        exact ⟨j, tk2, x2, by omega, g2⟩
/-- tuples laid at once -/
def layH (lo : Nat) (ps : List (Addr × List V)) (H : Hp) : Hp := fun b => if b < lo then H b else (ps.lookup b).map HO.tup
theorem lay_lt {lo : Nat} {ps : List (Addr × List V)} {H : Hp} {b : Addr} (h : b < lo) : layH lo ps H b = H b := if_pos h
theorem lookup_of {α : Type} : ∀ {ps : List (Addr × α)} {p : Addr × α}, (ps.map (·.1)).Nodup → p ∈ ps → ps.lookup p.1 = some p.2
  | [], _, _, h => by cases h
  | q :: ps, p, nd, h => by
    (rw [List.map_cons, List.nodup_cons] at nd)
    rcases List.mem_cons.mp h with rfl | h2
    · obtain ⟨a, b⟩ := p
      simp [List.lookup]
    · have hne : (p.1 == q.1) = false := by
        simp only [beq_eq_false_iff_ne]
        intro e
        exact nd.1 (List.mem_map.mpr ⟨p, h2, e⟩)
      obtain ⟨qa, qb⟩ := q
      simp only [List.lookup]
      rw [show (p.1 == qa) = false from hne]
      exact lookup_of nd.2 h2
theorem mem_of_lookupA {α : Type} : ∀ {ps : List (Addr × α)} {b : Addr} {x : α}, ps.lookup b = some x → (b, x) ∈ ps
  | [], _, _, h => by simp [List.lookup] at h
  | (a, y) :: ps, b, x, h => by
    simp only [List.lookup] at h
    split at h
    · rename_i e
      cases h
      rw [beq_iff_eq.mp e]; exact List.mem_cons_self
    · exact List.mem_cons_of_mem _ (mem_of_lookupA h)
section
variable {X : Cx} {pins : List (Addr × Obj)} {σ : L2.St} {H : Hp} {s : Shared} {h' : Heap} {ps : List (Addr × List V)}
theorem inv_lay {tk : Nat} (I : L2.Inv X pins σ H s) (k : ∀ b u, s.heap.get? b = some u → h'.get? b = some u) (hp : ∀ p ∈ ps, s.heap.objs.size ≤ p.1) (hl : ∀ p ∈ ps, p.2.length ≤ sizeLine ∧ ∃ us : List Value, Vals p.2 us ∧ IsTup h' p.1 us.toArray) :
    L2.Inv X pins σ (layH s.heap.objs.size ps H) { s with heap := h', toks := tk } := by
  have lt : ∀ {b : Addr} {u : HO}, H b = some u → b < s.heap.objs.size := fun e => I.hok.lt e
  have same : ∀ {b : Addr} {u : HO}, H b = some u → layH s.heap.objs.size ps H b = some u := fun e => (lay_lt (lt e)).trans e
  refine I.un ⟨fun b u q _ _ _ => k b u q, fun b u q _ _ _ => ⟨u.slots, k b u q⟩, fun b u q n _ => (lay_lt (Heap.lt_size q)).trans n, fun b u q _ => ⟨u, k b u q⟩, fun b xs q => same q, fun b u xs q => same q, fun b xs q => ⟨#[], by rw [same q]; simp⟩⟩ fun b u e => ?_
  by_cases hb : b < s.heap.objs.size
  · rw [lay_lt hb] at e
    exact (I.hok b u e).stay (fun c v _ q => k c v q) (fun c q => same q) fun c xs q => same q
  · have e : (ps.lookup b).map HO.tup = some u := by
      have e2 : (if b < s.heap.objs.size then H b else (ps.lookup b).map HO.tup) = some u := e
      rwa [if_neg hb] at e2
    cases hq : ps.lookup b with
    | none => rw [hq] at e; cases e
    | some xs =>
      rw [hq] at e; cases e
      obtain ⟨z, us, r, t⟩ := hl _ (mem_of_lookupA hq)
      exact ⟨z, us, r, t⟩
end
theorem rds_pairs {K : PySem.W.Frag} {J : Jn} {H : Hp} : ∀ {ds : List D} {vs : List V} {ps : List (Addr × List V)} {n : Nat}, RDs K J H ds vs → ps.map (·.2) = pairsV n vs → (∀ p ∈ ps, p.1 ∉ J.l ∧ p.1 ∉ J.z ∧ H p.1 = some (.tup p.2)) → RDs K J H (enumD n ds) (ps.map fun p => V.ref p.1)
  | _, _, [], _, .nil, _, _ => .nil
  | _, _, _ :: _, _, .nil, e, _ => by cases e
  | _, _, [], _, .cons _ _, e, _ => by cases e
  | d :: ds, v :: vs, p :: ps, n, .cons r t, e, hp => by
    rw [List.map_cons] at e
    have e1 : p.2 = [.int (n : Int), v] := (List.cons.inj e).1
    obtain ⟨q1, q2, q3⟩ := hp p List.mem_cons_self
    rw [e1] at q3
    exact .cons (.tup q1 q2 q3 (by show 2 ≤ sizeLine; decide) (.cons (.int _) (.cons r .nil))) (rds_pairs t (List.cons.inj e).2 fun q hq => hp q (List.mem_cons_of_mem _ hq))
theorem vals_refs : ∀ (ps : List (Addr × List V)), Vals (ps.map fun p => V.ref p.1) (ps.map fun p => Value.ref p.1)
  | [] => .nil
  | p :: ps => .cons rfl (vals_refs ps)
section
variable {X : Cx} {pins : List (Addr × Obj)} {σ : L2.St} {H : Hp} {s : Shared} {J : Jn} {h : Hh}
/-- tuple(enumerate(a tuple)) -/
theorem tenum_run {a : Addr} {ds : List D} {Q : VK} (hc : X.calm = true) (I : L2.Inv X pins σ H s) (rh : RH X.K J h H) (rx : RD X.K J H (.tup ds) (.ref a)) (q : ∀ J' H' v, Ext J H J' H' → RH X.K J' h H' → RD X.K J' H' (.tup (enumD 0 ds)) v → Q v H') :
    wpAny (model X.prog X.w) X.A (call (.type "enumerate") [.ref a]) (fun ev s2 => wpAny (model X.prog X.w) X.A (call (.type "tuple") [ev]) (EP X pins σ Q) X.xe s2) X.xe s := by
  obtain ⟨a', vs, ea, hq, z, rs⟩ := rx.tup_inv
  cases ea
  obtain ⟨its, rv, tp, hz⟩ := I.tuple hq
  (have hh : X.A.handled = none := I.ok.hd hc)
  have la : a < s.heap.objs.size := by obtain ⟨o, g, _⟩ := tp; exact Heap.lt_size g
  refine PVQ.call_enumT tp fun g he hi hsz kp => ?_
  have tp2 : g.IsTuple a its.toArray := (show s.heap.IsTuple a its.toArray from tp).at fun o e => kp a o e
  refine PVQ.call_tupleT (s := { s with heap := g }) hh (Nat.succ_ne_self _) (Nat.ne_of_lt la) (Nat.ne_of_lt (Nat.lt_succ_of_lt la)) (by rw [List.size_toArray, ← rv.length]; exact hz) he hi tp2 fun g' tk acc r1 r2 r3 r4 => ?_
  have keep : ∀ b u, s.heap.get? b = some u → g'.get? b = some u := fun b u e => by
    have lb := Heap.lt_size e
    exact r3 b u (Nat.ne_of_lt (Nat.lt_succ_of_lt lb)) (Nat.ne_of_lt lb) (kp b u e)
  obtain ⟨ps, p1, p2, p3, p4, _⟩ := build_ps (h := g') (e := s.heap.objs.size + 1) (n := 0) (accl := acc.toList) rv (by rw [Array.length_toList, r1, List.size_toArray]) fun j v hv => by
    obtain ⟨T, t2, x, e1, e2, e3, e4⟩ := r2 j v (by simpa using hv)
    exact ⟨T, t2, x, e1, by simpa using e2, by rw [Nat.zero_add]; exact e3, e4⟩
  have lps : ps.length = vs.length := by
    have := congrArg List.length p2
    rw [List.length_map] at this
    rw [this]
    have gen : ∀ (vs : List V) (n : Nat), (pairsV n vs).length = vs.length := by
      intro vs
      induction vs with
      | nil => intro n; rfl
      | cons v vs ih => intro n; show (pairsV (n + 1) vs).length + 1 = _; rw [ih]; rfl
    exact gen vs 0
  -- the last tuple
  have g1 : ∀ p ∈ ps, p.1 < g'.objs.size := fun p hp => by
    obtain ⟨_, _, us, _, o, go, _⟩ := p3 p hp
    exact Heap.lt_size go
  have big : s.heap.objs.size ≤ g'.objs.size := by
    have r4 : g.objs.size < g'.objs.size := r4
    rw [hsz] at r4; exact Nat.le_of_lt (Nat.lt_trans (Nat.lt_succ_of_lt (Nat.lt_succ_self _)) r4)
  let all : List (Addr × List V) := (g'.objs.size, ps.map fun p => V.ref p.1) :: ps
  have nd : (all.map (·.1)).Nodup := by
    show (g'.objs.size :: ps.map (·.1)).Nodup
    refine List.nodup_cons.mpr ⟨fun hm => ?_, p4⟩
    (obtain ⟨p, hp, e⟩ := List.mem_map.mp hm)
    have e : p.1 = g'.objs.size := e
    exact Nat.lt_irrefl _ (e ▸ g1 p hp)
  have acc2 : acc = (ps.map fun p => Value.ref p.1).toArray := by rw [← p1]
  have I2 := inv_lay (ps := all) (h' := g'.push { cls := .type "tuple", data := .seq acc }) (tk := tk) I (fun b u e => Heap.get?_push_of_some _ (keep b u e)) (fun p hp => by
    (rcases List.mem_cons.mp hp with rfl | hp)
    · exact big
    · exact Nat.le_of_lt (Nat.lt_trans (Nat.lt_succ_self _) (p3 p hp).1)) (fun p hp => by
    (rcases List.mem_cons.mp hp with rfl | hp)
    · refine ⟨by rw [List.length_map, lps]; exact z, _, vals_refs ps, ⟨_, Heap.get?_push_size _ rfl, rfl, 0, by rw [acc2]⟩⟩
    · obtain ⟨_, l2, us, ru, o, go, gc⟩ := p3 p hp
      exact ⟨Nat.le_trans l2 (by show 2 ≤ sizeLine; decide), us, ru, ⟨o, Heap.get?_push_of_some _ go, gc⟩⟩)
  have at_ : ∀ p ∈ all, s.heap.objs.size ≤ p.1 → layH s.heap.objs.size all H p.1 = some (.tup p.2) := fun p hp hb => by
    show (if p.1 < s.heap.objs.size then H p.1 else (all.lookup p.1).map HO.tup) = _
    rw [if_neg (Nat.not_lt.mpr hb), lookup_of nd hp]; rfl
  have ext : Ext J H J (layH s.heap.objs.size all H) := ⟨rfl, ⟨[], by simp, by simp⟩, fun b o _ e => (lay_lt (I.hok.lt e)).trans e⟩
  have nl : ∀ b, s.heap.objs.size ≤ b → b ∉ J.l ∧ b ∉ J.z := fun b hb => by
    have hn : H b = none := I.hok.fresh hb
    exact ⟨rh.notin hn, rh.notz hn⟩
  have rh2 : RH X.K J h (layH s.heap.objs.size all H) := ⟨rh.nd, rh.len, fun i o e => by
    obtain ⟨b, u, h1, h2, h3⟩ := rh.obj i o e
    exact ⟨b, u, h1, (lay_lt (I.hok.lt h2)).trans h2, h3.ext ext⟩, rh.apart, fun b hb => by
    cases hbu : H b with
    | none => exact absurd hbu (rh.zed b hb)
    | some u => rw [(lay_lt (I.hok.lt hbu)).trans hbu]; simp⟩
  refine ⟨.ref g'.objs.size, _, I2, rfl, q J _ _ ext rh2 (.tup (nl _ big).1 (nl _ big).2 (at_ _ List.mem_cons_self big) (by rw [List.length_map, lps]; exact z) (rds_pairs (rs.ext ext) p2 fun p hp => ?_))⟩
  have hb : s.heap.objs.size ≤ p.1 := Nat.le_of_lt (Nat.lt_trans (Nat.lt_succ_self _) (p3 p hp).1)
  exact ⟨(nl _ hb).1, (nl _ hb).2, at_ p (List.mem_cons_of_mem _ hp) hb⟩
end
end PV
end

section
set_option maxRecDepth 100000
/-! PvS: t.index(n), t a tuple or a list of whole numbers, n in it; a written tuple as a frozen object whose dict is known. -/
namespace PV
open PySem PySem.Spec PyProof.Rows L2 PV
theorem intsAre_of : ∀ {ns : List Int} {us : List Value}, Vals (ns.map V.int) us → IntsAre us ns
  | [], _, .nil => .nil
  | n :: ns, _, .cons r t => by
    obtain ⟨k, rfl⟩ := r
    exact .cons n k (intsAre_of t)
section
variable {X : Cx}
def rIdx (S : PySem.W.Frag → Hp → Addr → List V → Prop) (K : PySem.W.Frag) : V → List V → Hp → VK → Prop :=
  fun x xs H Q => ∃ p, ∃ ns : List Int, ∃ z, x = .ref p ∧ xs = [.int z] ∧ S K H p (ns.map V.int) ∧ z ∈ ns ∧ Q (.int (ns.idxOf z : Nat)) H
theorem mt_tupIdx : MtR X "tuple.index" (rIdx SqT X.K) := by
  intro pins s σ H x xs v us Q I rx rs g
  obtain ⟨p, ns, z, rfl, rfl, hq, hz, q⟩ := g
  cases rx
  (obtain ⟨u, rfl, t, rfl⟩ := vals1 rs)
  obtain ⟨its, r, pl, hl⟩ := I.tuple hq
  exact SeqAt.tuple_index_ints pl (intsAre_of r) hz ⟨.int (ns.idxOf z : Nat), H, I.tok _, ⟨_, rfl⟩, q⟩
theorem mt_lstIdx : MtR X "list.index" (rIdx SqL X.K) := by
  intro pins s σ H x xs v us Q I rx rs g
  obtain ⟨p, ns, z, rfl, rfl, hq, hz, q⟩ := g
  cases rx
  (obtain ⟨u, rfl, t, rfl⟩ := vals1 rs)
  obtain ⟨its, r, ⟨o, n, p1, p2, p3, p4⟩, hl⟩ := I.list hq
  exact SeqAt.list_index_ints ⟨o, p1, p2, n, p4⟩ (intsAre_of r) (by rw [List.length_map] at hl; exact hl) hz ⟨.int (ns.idxOf z : Nat), H, I.tok _, ⟨_, rfl⟩, q⟩
/-- a written tuple, its cell a frozen object without a dict -/
def tFtup (t : TA) : TE := fun σ H Q => t σ H fun xs H1 => xs.length ≤ sizeLine ∧ ∀ p o, H1 p = none → o.cls = .type "tuple" → o.dict = none → Q (.ref p) (upd H1 p (.frz o (.tup xs)))
theorem pe_ftup {es : List Expr} {t : TA} {pos : Pos} {x1 : Nat} (h : PA X es t) : PE X (.Tuple es x1 pos) (tFtup t) := by
  (refine ⟨fun pins s σ H Q I hq => ?_⟩)
  (refine wpAny_Tuple_spliced (thn (h.run pos pins s σ H _ I hq) fun us s1 ⟨xs, H1, I1, r, z, q⟩ => ⟨by rw [← r.length]; exact z, ?_⟩))
  (have hf : H1 s1.heap.objs.size = none := I1.hok.fresh (Nat.le_refl _))
  have e0 := Heap.get?_push_size s1.heap (o := { cls := .type "tuple", data := .seq us.toArray }) rfl
  refine ⟨.ref s1.heap.objs.size, _, I1.laid (t' := s1.toks) (fun b u e => Heap.get?_push_of_some _ e) (Nat.le_refl _) ?_, rfl, q _ { cls := .type "tuple", data := .seq us.toArray } hf rfl rfl⟩
  exact ⟨e0, z, us, r, ⟨_, e0, rfl, _, rfl⟩⟩
/-- a method of a tuple whose dict is known to be none -/
def tFM (r : V → List V → Hp → VK → Prop) (to : TE) (t : TA) : TE := fun σ H Q => to σ H fun x H1 => (∃ p o xs, x = .ref p ∧ H1 p = some (.frz o (.tup xs)) ∧ o.cls = .type "tuple" ∧ o.dict = none) ∧ t σ H1 fun xs H2 => r x xs H2 Q
theorem pe_fm {o e : Expr} {es : List Expr} {to : TE} {t : TA} {name : Str} {apos cpos : Pos} {id : String} {r : V → List V → Hp → VK → Prop} (slot : Slot "tuple" name id) (hty : typeOf (.builtin id) = pure (.type "method_descriptor")) (hm : MtR X id r) (ho : PE X o to) (ha : PA X (e :: es) t)
    (hbase : attributeBase o name X.env (eval o X.env) = eval o X.env)
    (hfew : ((backTo cpos (starEach (e :: es) X.env)).all (fun x => !x.1) && (backToKw cpos (keywordEach [] X.env)).all (fun x => x.1.isSome) && decide ((e :: es).length + ([] : List Keyword).length + (if ([] : List Keyword).isEmpty then 0 else 1) < 30)) = true)
    (hline : (apos.endLine == cpos.line) = true) (hs : starEach (e :: es) X.env = (false, eval e X.env) :: starEach es X.env) (hplain : (backTo cpos (starEach es X.env)).any (·.1) = false) :
    PE X (.Call (.Attribute o name apos) (e :: es) [] cpos) (tFM r to t) := by
  (refine ⟨fun pins s σ H Q I h => ?_⟩)
  refine wpAny_Call_method_late hbase hfew hline rfl (thn (ho.run pins s σ H _ I h) fun v s1 ⟨x, H1, I1, r1, ⟨p, ob, ys, ex, hp, hc, hd⟩, q1⟩ => ?_)
  subst ex
  cases r1
  obtain ⟨e0, _⟩ := (show ObjOk X.prog X.w H1 s1.heap p (.frz ob (.tup ys)) from I1.hok p _ hp)
  refine ⟨"tuple", id, PySem.F.plainAttrs_tuple, slot, hty, ⟨ob, e0, hc⟩, fun a ea => by cases ea; exact ⟨ob, e0, hd⟩, ?_⟩
  (have hA := ha.run cpos pins s1 σ H1 _ I1 q1)
  rw [hs] at hA ⊢
  (refine Calls.callWith_builtin (by show (false || (backTo cpos (starEach es X.env)).any (·.1)) = false; rw [hplain] <;> rfl) (Calls.evalArgs_plain ?_))
  refine thn hA fun us s2 ⟨xs, H2, I2, rs, q2⟩ => ?_
  exact hm pins s2 σ H2 (.ref p) xs (.ref p) us Q I2 rfl rs q2
end
end PV
end

section
set_option maxRecDepth 100000
namespace PV
open L2 PySem PySem.Spec PyProof.Rows
section
variable {X : Cx} {e x a b tg : Expr} {p pa pb pc : P} {pos np cpos apos : Pos} {K : PySem.W.Frag} {J : Jn} {H : Hp} {h : Hh} {es : List Expr} {pl : PL} {y : Str}

theorem lcLoop_lst (good : Hh → Bool) (turn : D → Hh → R (Option D)) : ∀ (xs acc : List D) (h : Hh) (d : D) (h' : Hh), lcLoop good turn xs acc h = .ok d h' → ∃ ds, d = .lst ds
  | [], acc, h, d, h', e => by
    unfold lcLoop at e
    split at e
    · cases e; exact ⟨_, rfl⟩
    · cases e
  | x :: xs, acc, h, d, h', e => by
    unfold lcLoop at e
    split at e
    · split at e
      · exact lcLoop_lst good turn xs _ _ d h' e
      · exact lcLoop_lst good turn xs _ _ d h' e
      · cases e
    · cases e
theorem lc_lst {f : Env → Hh → R Src} {t : Tg} {pt pe : P} (ρ : Env) (h : Hh) (d : D) (h' : Hh)
    (e : ((f ρ h).bind fun s h1 => if sizeOk s.items.length then lcLoop s.good (lcTurn t pt pe ρ) s.items [] h1 else .bad) = .ok d h') : ∃ ds, d = .lst ds := by
  cases ev : f ρ h with
  | ok s h1 =>
    rw [ev, R.bind_ok] at e
    split at e
    · exact lcLoop_lst _ _ _ _ _ _ _ e
    · cases e
  | bad => rw [ev] at e; cases e
  | err _ _ => rw [ev] at e; cases e

/-! ### an empty dict -/
theorem se_dic0 : SE X (.Dict [] [] pos) (.plain fun _ h => .ok (.ref h.length) (h ++ [.dct []])) := by
  refine SE.plain (pe_dnewK.imp fun σ H Q ⟨ρ, h, J, re, rh, q⟩ => ?_) (fun _ => rfl)
  intro p np
  have rh2 : RH X.K (J.own p) (h ++ [.dct []]) (upd H p (.dK [])) := (rh.hide np).own (rh.notz np) upd_same (.dct (Nat.zero_le _) .nil)
  refine q _ _ _ (Ext.own np (Ext.laid np)) rh2 (.ref ?_)
  show (J.l ++ [p])[h.length]? = some p
  rw [← rh.len, List.getElem?_append_right (Nat.le_refl _)]; simp

/-! ### calls -/
def plainXs : List Expr → Bool
  | [] => true
  | e :: es => plainX e && plainXs es
theorem plainXs_any (pos : Pos) (env : PySem.Env) : ∀ {es : List Expr}, plainXs es = true → (backTo pos (starEach es env)).any (·.1) = false
  | [], _ => rfl
  | e :: es, h => by
    simp only [plainXs, Bool.and_eq_true] at h
    rw [plain_star h.1]
    have := plainXs_any pos env h.2
    unfold backTo at this ⊢
    rw [List.map_cons, List.any_cons, this]; rfl
theorem glb_dbg {c : Cs} (h : c.glb y = true) : (y == ("__debug__" : Str)) = false := by
  simp only [Cs.glb, Bool.and_eq_true, Bool.not_eq_true'] at h; exact h.2
section
variable {c : Cs} {F : Fns} {G : List D} {fn : Fn} {f : Nat}
/-- the callee runs -/
theorem run_g {k : Nat} {fa : Addr} {fd : FuncData} {ps : List Str} {sp : Sp} {pins : List (Addr × Obj)} {σ : L2.St} {H : Hp} {s : Shared} {Q : VK} {args : Args} {us : List Value} {vs : List V} (hF : FnG X.prog X.w X.K X.mg X.base k fa fd ps sp) (hr : Room k X.A) (hgd : X.A.guards = some [])
    (I : L2.Inv X pins σ H s) (hb : BindsTo s fd args (ps.zip us)) (r : Vals vs us) (h : sp vs H Q E0) : wpAny (model X.prog X.w) X.A (PySem.call (.ref fa) args.pos args.kw) (EP X pins σ Q) X.xe s := by
  refine wpAny_call (codeAny_mono (hF.go hr hgd I.env0 hb r h) fun o s' hq => ?_)
  cases o with
  | error e =>
    obtain ⟨_, _, _, _, _, _, _, _, _, _, _, _, z⟩ := hq
    exact z.elim
  | ok fl =>
    cases fl with
    | ret u => exact I.after hq
    | next => exact False.elim hq
    | brk => exact False.elim hq
    | cont => exact False.elim hq
theorem se_call (o : Ok c F G X) (hf : c.T[f]? = some fn) (hn : fn.name = y) (hg : c.glb y = true) (hp : plainXs es = true) (h0 : es = [] → pl.l = fun _ h => .ok [] h) (hlen : ∀ ρ h ds h', pl.l ρ h = .ok ds h' → ds.length = fn.P.length) (hl : SEs X es pl) :
    SE X (.Call (.Name y np) es [] pos) (.plain fun ρ h => (pl.l ρ h).bind fun xs h1 => F f xs h1) := by
  obtain ⟨k, hr, hgd, hc⟩ := o.call.ok
  obtain ⟨fa, fd, hm, hk, hF, hb, _⟩ := hc f fn hf
  rw [hn] at hm
  obtain ⟨g1, g2⟩ := glb_ok o hg
  refine SE.plain ⟨fun pins s σ H Q I ⟨ρ, h, J, re, rh, q⟩ => ?_⟩ (fun _ => rfl)
  refine wpAny_Call_Name_kw (ld_glob I g1 hm ?_ g2)
  have run : ∀ {us : List Value} {vs : List V} {J1 : Jn} {h1 : Hh} {H1 : Hp} {s1 : Shared} {ds : List D}, L2.Inv X pins σ H1 s1 → Vals vs us → RH X.K J1 h1 H1 → RDs X.K J1 H1 ds vs → ds.length = fn.P.length → Post X.K J1 H1 (rD X.K) (F f ds h1) Q →
      wpAny (model X.prog X.w) X.A (PySem.call (.ref fa) us) (EP X pins σ Q) X.xe s1 := by
    intro us vs J1 h1 H1 s1 ds I1 r rh1 rs hl1 q1
    have hul : us.length = fn.P.length := by rw [← r.length, ← rs.length]; exact hl1
    have hb1 := hb s1 us I1.kIn (by rw [List.append_nil]; exact hul)
    rw [List.append_nil] at hb1
    exact run_g (args := ⟨us, []⟩) hF hr hgd I1 hb1 r ⟨by rw [← rs.length]; exact hl1, J1, h1, ds, rs, rh1, q1.x⟩
  cases es with
  | nil =>
    rw [h0 rfl] at q
    exact PySem.W.callWith_K0 I.kIn hk (run (us := []) (ds := []) I .nil rh .nil (hlen [] [] [] [] (by rw [h0 rfl])) q)
  | cons e es =>
    simp only [plainXs, Bool.and_eq_true] at hp
    refine PySem.W.callWith_K (h₀ := X.base) I.ok.mod.kin hk (thn (hl.l.run pos pins s σ H _ I (?_ : tG X.K (rDs X.K) pl.l σ H (fun vs H1 => ∃ J1 h1 ds, RH X.K J1 h1 H1 ∧ RDs X.K J1 H1 ds vs ∧ ds.length = fn.P.length ∧ Post X.K J1 H1 (rD X.K) (F f ds h1) Q))) fun us s1 ⟨vs, H1, I1, r, J1, h1, ds, rh1, rs, hl1, q1⟩ => ⟨I1.kIn, run I1 r rh1 rs hl1 q1⟩) (plain_star hp.1 _ _) (plainXs_any _ _ hp.2)
    refine ⟨ρ, h, J, re, rh, ?_⟩
    dsimp only at q
    cases ev : pl.l ρ h with
    | bad => rw [ev] at q; exact q
    | err _ _ => rw [ev] at q; exact q
    | ok ds h1 =>
      rw [ev, R.bind_ok] at q
      exact fun J1 H1 vs e1 rh1 rs => ⟨J1, h1, ds, rh1, rs, hlen _ _ _ _ ev, Post.ext rh rh1 e1 q⟩

/-- the callee runs, an exception goes on -/
theorem run_gX {W : WX} {k : Nat} {fa : Addr} {fd : FuncData} {ps : List Str} {sp : Sp} {pins : List (Addr × Obj)} {σ : L2.St} {H : Hp} {s : Shared} {Q : VK} {args : Args} {us : List Value} {vs : List V} (hF : FnG X.prog X.w X.K X.mg X.base k fa fd ps sp) (hr : Room k X.A) (hgd : X.A.guards = some []) (tk : Takes X W)
    (I : L2.Inv X pins σ H s) (hb : BindsTo s fd args (ps.zip us)) (r : Vals vs us) (h : sp vs H Q (WE W σ)) : wpAny (model X.prog X.w) X.A (PySem.call (.ref fa) args.pos args.kw) (EP X pins σ Q) X.xe s := by
  refine wpAny_call (codeAny_mono (hF.go hr hgd I.env0 hb r h) fun o s' hq => ?_)
  cases o with
  | error e => exact tk e s' (XE.of_call I (fun _ _ _ z => z) hq)
  | ok fl =>
    cases fl with
    | ret u => exact I.after hq
    | next => exact (False.elim hq)
    | brk => exact (False.elim hq)
    | cont => exact (False.elim hq)
/-- what is wanted behind a call whose exception goes on -/
def tCX (X : Cx) (W : WX) (F : Fns) (f n : Nat) (l : Env → Hh → R (List D)) : TE := fun σ H Q => tG X.K (rDs X.K) l σ H (fun vs H1 => ∃ J1 h1 ds, RH X.K J1 h1 H1 ∧ RDs X.K J1 H1 ds vs ∧ ds.length = n ∧ PostX X.K X.mg (WE W σ) J1 H1 (rD X.K) (F f ds h1) Q)
theorem pe_callX {W : WX} (o : Ok c F G X) (tk : Takes X W) (hf : c.T[f]? = some fn) (hn : fn.name = y) (hg : c.glb y = true) (hp : plainXs es = true) (h0 : es = [] → pl.l = fun _ h => .ok [] h) (hl : SEs X es pl) :
    PE X (.Call (.Name y np) es [] pos) (tCX X W F f fn.P.length pl.l) := by
  obtain ⟨k, hr, hgd, hc⟩ := o.call.ok
  obtain ⟨fa, fd, hm, hk, hF, hb, _⟩ := hc f fn hf
  rw [hn] at hm
  obtain ⟨g1, g2⟩ := glb_ok o hg
  (refine ⟨fun pins s σ H Q I q => ?_⟩)
  refine wpAny_Call_Name_kw (ld_glob I g1 hm ?_ g2)
  have run : ∀ {us : List Value} {vs : List V} {J1 : Jn} {h1 : Hh} {H1 : Hp} {s1 : Shared} {ds : List D}, L2.Inv X pins σ H1 s1 → Vals vs us → RH X.K J1 h1 H1 → RDs X.K J1 H1 ds vs → ds.length = fn.P.length → PostX X.K X.mg (WE W σ) J1 H1 (rD X.K) (F f ds h1) Q →
      wpAny (model X.prog X.w) X.A (PySem.call (.ref fa) us) (EP X pins σ Q) X.xe s1 := by
    intro us vs J1 h1 H1 s1 ds I1 r rh1 rs hl1 q1
    have hul : us.length = fn.P.length := by rw [← r.length, ← rs.length]; exact hl1
    have hb1 := hb s1 us I1.kIn (by rw [List.append_nil]; exact hul)
    rw [List.append_nil] at hb1
    exact run_gX (args := ⟨us, []⟩) hF hr hgd tk I1 hb1 r ⟨by rw [← rs.length]; exact hl1, J1, h1, ds, rs, rh1, q1⟩
  cases es with
  | nil =>
    unfold tCX at q
    rw [h0 rfl] at q
    obtain ⟨ρ, h, J, re, rh, q⟩ := q
    obtain ⟨J1, h1, ds, rh1, rs, hl1, q1⟩ := q J H [] Ext.refl rh .nil
    exact PySem.W.callWith_K0 I.kIn hk (run (us := []) I .nil rh1 rs hl1 q1)
  | cons e es =>
    simp only [plainXs, Bool.and_eq_true] at hp
    exact PySem.W.callWith_K (h₀ := X.base) I.ok.mod.kin hk (thn (hl.l.run pos pins s σ H _ I q) fun us s1 ⟨vs, H1, I1, r, J1, h1, ds, rh1, rs, hl1, q1⟩ => ⟨I1.kIn, run I1 r rh1 rs hl1 q1⟩) (plain_star hp.1 _ _) (plainXs_any _ _ hp.2)

/-! ### calls with keywords -/
def kwNms (kws : List Keyword) : List Str := kws.filterMap (·.arg)
def kwAll (kws : List Keyword) : Bool := kws.all (·.arg.isSome)
theorem kws_facts (pos : Pos) (env : PySem.Env) : ∀ {kws : List Keyword}, kwAll kws = true → (backToKw pos (keywordEach kws env)).all (·.1.isSome) = true ∧ (backToKw pos (keywordEach kws env)).filterMap (·.1) = kwNms kws ∧ (backToKw pos (keywordEach kws env)).any (·.1.isNone) = false
  | [], _ => ⟨rfl, rfl, rfl⟩
  | ⟨nm, e, kp⟩ :: kws, h => by
    simp only [kwAll, List.all_cons, Bool.and_eq_true] at h
    obtain ⟨i1, i2, i3⟩ := kws_facts pos env (kws := kws) h.2
    cases nm with
    | none => cases h.1
    | some nm =>
      refine ⟨?_, ?_, ?_⟩
      · show (true && _) = true
        exact i1
      · exact congrArg (nm :: ·) i2
      · show (false || _) = false
        exact i3
theorem vals_getD : ∀ {vs : List V} {us : List Value} (k : Nat), Vals vs us → RelV (vs.getD k .non) (us.getD k .none)
  | _, _, _, .nil => by simp; rfl
  | _, _, 0, .cons r _ => r
  | _, _, k + 1, .cons _ t => by simpa using vals_getD k t
theorem vals_pm {vs zs : List V} {us ws : List Value} (r : Vals vs us) (z : Vals zs ws) : ∀ pm : List Nat, Vals (pmD .non pm vs zs) (pmD .none pm us ws)
  | [] => .nil
  | k :: pm => .cons (vals_getD k (r.append z)) (vals_pm r z pm)
theorem rds_getD {K : PySem.W.Frag} {J : Jn} {H : Hp} : ∀ {ds : List D} {vs : List V} (k : Nat), RDs K J H ds vs → RD K J H (ds.getD k .non) (vs.getD k .non)
  | _, _, _, .nil => by simp; exact .non
  | _, _, 0, .cons r _ => r
  | _, _, k + 1, .cons _ t => by simpa using rds_getD k t
theorem rds_pm {K : PySem.W.Frag} {J : Jn} {H : Hp} {ds es : List D} {vs ws : List V} (r : RDs K J H ds vs) (z : RDs K J H es ws) : ∀ pm : List Nat, RDs K J H (pmD .non pm ds es) (pmD .non pm vs ws)
  | [] => .nil
  | k :: pm => .cons (rds_getD k (r.append z)) (rds_pm r z pm)
theorem pm_len {α : Type} {d : α} {pm : List Nat} {xs ys : List α} : (pmD d pm xs ys).length = pm.length := by simp [pmD]
theorem se_callK {kws : List Keyword} {pk : PL} {n : Nat} {pm : List Nat} (o : Ok c F G X) (hf : c.T[f]? = some fn) (hn : fn.name = y) (hg : c.glb y = true) (hp : plainXs es = true) (hq : (n, kwNms kws, pm) ∈ fn.kw) (h0 : es = [] → pl.l = fun _ h => .ok [] h)
    (hlen : ∀ ρ h ds h', pl.l ρ h = .ok ds h' → ds.length = n) (hkl : ∀ ρ h ds h', pk.l ρ h = .ok ds h' → ds.length = (kwNms kws).length) (hka : kwAll kws = true) (hl : SEs X es pl) (hk : SEs X (kws.map (·.value)) pk) :
    SE X (.Call (.Name y np) es kws pos) (.plain fun ρ h => (pl.l ρ h).bind fun xs h1 => (pk.l ρ h1).bind fun ys h2 => F f (pmD .non pm xs ys) h2) := by
  obtain ⟨k, hr, hgd, hc⟩ := o.call.ok
  obtain ⟨fa, fd, hm, hkp, hF, hb, hkw⟩ := hc f fn hf
  have hkw := hkw _ hq
  rw [hn] at hm
  obtain ⟨g1, g2⟩ := glb_ok o hg
  obtain ⟨k1, k2, k3⟩ := kws_facts pos X.env hka
  refine SE.plain ⟨fun pins s σ H Q I ⟨ρ, h, J, re, rh, q⟩ => ?_⟩ (fun _ => rfl)
  refine wpAny_Call_Name_kw (ld_glob I g1 hm ?_ g2)
  -- the keywords and the call
  have tail : ∀ {us : List Value} {vs : List V} {J1 : Jn} {h1 : Hh} {H1 : Hp} {s1 : Shared} {ds : List D}, Inv X pins σ H1 s1 → Vals vs us → RE X.K J1 H1 ρ σ → RH X.K J1 h1 H1 → RDs X.K J1 H1 ds vs → vs.length = n →
      Post X.K J1 H1 (rD X.K) ((pk.l ρ h1).bind fun ys h2 => F f (pmD .non pm ds ys) h2) Q →
      wpAny (model X.prog X.w) X.A (evalAll ((backToKw pos (keywordEach kws X.env)).map (·.2))) (fun ks s₂ => X.K.In s₂.heap ∧ wpAny (model X.prog X.w) X.A (PySem.call (.ref fa) us (((backToKw pos (keywordEach kws X.env)).filterMap (·.1)).zip ks)) (EP X pins σ Q) X.xe s₂) X.xe s1 := by
    intro us vs J1 h1 H1 s1 ds I1 r re1 rh1 rs hl1 q1
    have hd : tG X.K (rDs X.K) pk.l σ H1 (fun zs H2 => zs.length = (kwNms kws).length ∧ ∃ J2 h2 es, RDs X.K J2 H2 (pmD .non pm ds es) (pmD .non pm vs zs) ∧ RH X.K J2 h2 H2 ∧ Post X.K J2 H2 (rD X.K) (F f (pmD .non pm ds es) h2) Q) := by
      refine ⟨ρ, h1, J1, re1, rh1, ?_⟩
      cases ev : pk.l ρ h1 with
      | bad => rw [ev] at q1; exact q1
      | err _ _ => rw [ev] at q1; exact q1
      | ok es h2 =>
        rw [ev, R.bind_ok] at q1
        intro J2 H2 zs e2 rh2 rz
        exact ⟨by rw [← rz.length]; exact hkl _ _ _ _ ev, J2, h2, es, rds_pm (rs.ext e2) rz pm, rh2, Post.ext rh1 rh2 e2 q1⟩
    refine thn ((hk.kw kws rfl).run pos pins s1 σ H1 _ I1 hd) fun ws s2 ⟨zs, H2, I2, rz, hzl, J2, h2, es, rr, rh2, q2⟩ => ⟨I2.kIn, ?_⟩
    rw [k2]
    refine run_g (args := ⟨us, (kwNms kws).zip ws⟩) hF hr hgd I2 (hkw.to s2 us ws I2.kIn ?_ ?_) (vals_pm r rz pm) ⟨?_, J2, h2, _, rr, rh2, q2.x⟩
    · rw [← r.length]; exact hl1
    · rw [← rz.length]; exact hzl
    · rw [pm_len, hkw.len]
  cases es with
  | nil =>
    rw [h0 rfl] at q
    refine PySem.W.callWith_KW0 (h₀ := X.base) I.ok.mod.kin hkp k1 (tail I .nil re rh .nil ?_ q) (by rw [k3]; rfl)
    have := hlen [] [] [] [] (by rw [h0 rfl])
    exact this
  | cons e es =>
    have hp' := hp
    simp only [plainXs, Bool.and_eq_true] at hp'
    refine PySem.W.callWith_KW (h₀ := X.base) I.ok.mod.kin hkp k1 (thn (hl.l.run pos pins s σ H _ I (?_ : tG X.K (rDs X.K) pl.l σ H (fun vs H1 => vs.length = n ∧ ∃ J1 h1 ds, RE X.K J1 H1 ρ σ ∧ RH X.K J1 h1 H1 ∧ RDs X.K J1 H1 ds vs ∧ Post X.K J1 H1 (rD X.K) ((pk.l ρ h1).bind fun ys h2 => F f (pmD .non pm ds ys) h2) Q))) fun us s1 ⟨vs, H1, I1, r, hvl, J1, h1, ds, re1, rh1, rs, q1⟩ => tail I1 r re1 rh1 rs hvl q1) (by rw [plainXs_any pos X.env hp, k3]; rfl) (plain_star hp'.1 _ _)
    refine ⟨ρ, h, J, re, rh, ?_⟩
    dsimp only at q
    cases ev : pl.l ρ h with
    | bad => rw [ev] at q; exact q
    | err _ _ => rw [ev] at q; exact q
    | ok ds h1 =>
      rw [ev, R.bind_ok] at q
      intro J1 H1 vs e1 rh1 rs
      exact ⟨by rw [← rs.length]; exact hlen _ _ _ _ ev, J1, h1, ds, re.ext e1, rh1, rs, Post.ext rh rh1 e1 q⟩

/-! ### built-in functions -/
def bfNm : Bf → Str
  | .len => "len" | .int => "int" | .abs => "abs" | .tuple => "tuple" | .list => "list" | .max2 => "max" | .min2 => "min" | .sum => "sum" | .all => "all" | .any => "any" | .sorted => "sorted" | .repr => "repr"
theorem bf_do {σ : L2.St} {H : Hp} {Q : VK} {f : Hh → List D → Option D} (t : tG X.K (rD X.K) (fun ρ h => (pl.l ρ h).bind fun xs h1 => R.opt (f h1 xs) h1) σ H Q) : tCB (rBf X.K f) (tG X.K (rDs X.K) pl.l) σ H Q := by
  obtain ⟨ρ, h, J, re, rh, q⟩ := t
  refine (Post.step (R1 := rDs X.K) (f := pl.l) re rh q).mono fun xs H1 ⟨J1, h1, ds, e1, re1, rh1, rs, q1⟩ => ?_
  obtain ⟨d, hd, q2⟩ := Post.optX q1
  exact ⟨J1, h1, ds, d, rh1, rs, hd, q2⟩
theorem se_bfB {id : String} {f : Hh → List D → Option D} (hc : CallR X (.builtin id) (rBf X.K f)) (hb : bootBuiltins y = some (.builtin id)) (hn : y ≠ "__name__") (o : Ok c F G X) (hm : y ∈ c.bs) (hg : c.glb y = true) (he : plainXs (e :: es) = true) (hl : SEs X (e :: es) pl) :
    SE X (.Call (.Name y np) (e :: es) [] pos) (.plain fun ρ h => (pl.l ρ h).bind fun xs h1 => R.opt (f h1 xs) h1) := by
  simp only [plainXs, Bool.and_eq_true] at he
  exact SE.plain ((pe_callB hc (glb_ok o hg).1 (o.blt y hm) hb hl.l hn (glb_ok o hg).2 (plain_star he.1 _ _) (plainXs_any _ _ he.2)).imp fun σ H Q t => bf_do t) (fun _ => rfl)
theorem se_bfT {id : String} {f : Hh → List D → Option D} (hc : CallR X (.type id) (rBf X.K f)) (hb : bootBuiltins y = some (.type id)) (hn : y ≠ "__name__") (o : Ok c F G X) (hm : y ∈ c.bs) (hg : c.glb y = true) (he : plainXs (e :: es) = true) (hl : SEs X (e :: es) pl) :
    SE X (.Call (.Name y np) (e :: es) [] pos) (.plain fun ρ h => (pl.l ρ h).bind fun xs h1 => R.opt (f h1 xs) h1) := by
  simp only [plainXs, Bool.and_eq_true] at he
  exact SE.plain ((pe_callTy hc (glb_ok o hg).1 (o.blt y hm) hb hl.l hn (glb_ok o hg).2 (plain_star he.1 _ _) (plainXs_any _ _ he.2)).imp fun σ H Q t => bf_do t) (fun _ => rfl)
def bfOn : Bf → Bool
  | .list => false
  | _ => true
theorem se_bf {f : Bf} (hf : bfOn f = true) (o : Ok c F G X) (hm : bfNm f ∈ c.bs) (hg : c.glb (bfNm f) = true) (he : plainXs (e :: es) = true) (hl : SEs X (e :: es) pl) :
    SE X (.Call (.Name (bfNm f) np) (e :: es) [] pos) (.plain fun ρ h => (pl.l ρ h).bind fun xs h1 => R.opt (opBf f h1 xs) h1) := by
  cases f with
  | len => exact se_bfB bf_len rfl (by decide) o hm hg he hl
  | int => exact se_bfT bf_int rfl (by decide) o hm hg he hl
  | abs => exact se_bfB bf_abs rfl (by decide) o hm hg he hl
  | tuple => exact se_bfT bf_tuple rfl (by decide) o hm hg he hl
  | max2 => exact se_bfB (bf_max o.calm) rfl (by decide) o hm hg he hl
  | min2 => exact se_bfB (bf_min o.calm) rfl (by decide) o hm hg he hl
  | sum => exact se_bfB (bf_sum o.calm) rfl (by decide) o hm hg he hl
  | all => exact se_bfB (bf_all o.calm) rfl (by decide) o hm hg he hl
  | any => exact se_bfB (bf_any o.calm) rfl (by decide) o hm hg he hl
  | repr => exact se_bfB (bf_repr o.units o.guards) rfl (by decide) o hm hg he hl
  | sorted => exact se_bfB (bf_sorted o.calm) rfl (by decide) o hm hg he hl
  | _ => cases hf
/-- list(x): a new list -/
theorem se_listF (o : Ok c F G X) (hm : ("list" : Str) ∈ c.bs) (hg : c.glb "list" = true) (he : plainXs (e :: es) = true) (hl : SEs X (e :: es) pl) :
    PE X (.Call (.Name "list" np) (e :: es) [] pos) (tF X.K fun ρ h => (pl.l ρ h).bind fun xs h1 => R.opt (opBf .list h1 xs) h1) := by
  simp only [plainXs, Bool.and_eq_true] at he
  refine (pe_callTy bf_list (glb_ok o hg).1 (o.blt _ hm) rfl hl.l (by decide) (glb_ok o hg).2 (plain_star he.1 _ _) (plainXs_any _ _ he.2)).imp fun σ H Q ⟨ρ, h, J, re, rh, q⟩ => ?_
  refine ⟨ρ, h, J, re, rh, ?_⟩
  dsimp only at q
  cases ev : pl.l ρ h with
  | bad => rw [ev] at q; exact False.elim q
  | err _ _ => rw [ev] at q; exact False.elim q
  | ok ds h1 =>
    rw [ev, R.bind_ok] at q
    intro J1 H1 vs e1 rh1 rs
    have hb : opBf .list h1 ds = bfList h1 ds := rfl
    rw [hb] at q
    cases ed : bfList h1 ds with
    | none => rw [ed] at q; exact False.elim q
    | some d =>
      rw [ed] at q
      refine ⟨J1, h1, ds, d, rh1, rs, ed, fun p ys ws hd np hz rr => ?_⟩
      subst hd
      refine q (J1.hide p) _ p ws ⟨rfl, e1.pre, fun a o n q => by rw [upd_ne (ne_of_none (e1.keep a o n q) np)]; exact e1.keep a o n q⟩ ?_ (rh1.hide np) upd_same hz ((rr.sub (Sub.hide np)).ext (Ext.laid np)) ?_
      · show p :: J1.z = p :: J.z; rw [e1.z]
      · cases hp : H p with
        | none => rfl
        | some u =>
          exfalso
          by_cases n : p ∈ J.l
          · obtain ⟨m, hm, _⟩ := e1.pre
            obtain ⟨u', h2⟩ := rh1.inl (a := p) (by rw [hm]; exact List.mem_append_left _ n)
            rw [np] at h2; cases h2
          · have := e1.keep p u n hp; rw [np] at this; cases this
theorem se_list (o : Ok c F G X) (hm : ("list" : Str) ∈ c.bs) (hg : c.glb "list" = true) (he : plainXs (e :: es) = true) (hl : SEs X (e :: es) pl) :
    SE X (.Call (.Name "list" np) (e :: es) [] pos) (.plain fun ρ h => (pl.l ρ h).bind fun xs h1 => R.opt (opBf .list h1 xs) h1) := by
  refine SE.plain (tF_val (se_listF o hm hg he hl) fun ρ h d h' e => ?_) (fun _ => rfl)
  cases ev : pl.l ρ h with
  | bad => rw [ev] at e; cases e
  | err _ _ => rw [ev] at e; cases e
  | ok ds h1 =>
    rw [ev, R.bind_ok] at e
    have hb : opBf .list h1 ds = bfList h1 ds := rfl
    rw [hb] at e
    unfold bfList at e
    split at e
    · rename_i x
      cases es : x.seq h1 with
      | none => rw [es] at e; cases e
      | some ys => rw [es] at e; cases e; exact ⟨_, rfl⟩
    · cases e

/-! ### isinstance -/
def tyNm : Ty → Str
  | .int => "int" | .str => "str" | .tup => "tuple" | .lst => "list" | .bl => "bool" | .dct => "dict" | .non => "NoneType"
theorem tyNm_boot (t : Ty) (ht : t ≠ .non) : bootBuiltins (tyNm t) = some (.type t.nm) := by cases t <;> first | rfl | exact absurd rfl ht
theorem se_isi {t : Ty} {ty : Str} {tp : Pos} (ht : t ≠ .non) (hty : ty = tyNm t) (o : Ok c F G X) (hm : ("isinstance" : Str) ∈ c.bs) (hg : c.glb "isinstance" = true) (hm2 : ty ∈ c.bs) (hg2 : c.glb ty = true) (hp : plainX a = true) (ha : SE X a pa) :
    SE X (.Call (.Name "isinstance" np) [a, .Name ty tp] [] pos) (.plain fun ρ h => (pa.v ρ h).bind fun x h1 => if x.isF then .bad else .ok (.bl (opIsi t h1 x)) h1) := by
  subst hty
  refine SE.plain ((pe_callB (isi_ops (t := t)) (glb_ok o hg).1 (o.blt _ hm) rfl (pa_cons ha.v (pa_cons (pe_bltn (v := .ty t.nm) (glb_ok o hg2).1 (o.blt _ hm2) (tyNm_boot t ht) rfl (by cases t <;> decide) (glb_ok o hg2).2) pa_nil) (plain_star hp _ _)) (by decide) (glb_ok o hg).2 (plain_star hp _ _) rfl).imp fun σ H Q ⟨ρ, h, J, re, rh, q⟩ => ?_) (fun _ => rfl)
  refine (Post.step (R1 := rD X.K) (f := pa.v) re rh q).mono fun x H1 ⟨J1, h1, dx, e1, re1, rh1, rx, q1⟩ => ?_
  split at q1
  · exact False.elim q1
  · rename_i hf
    exact ⟨J1, h1, dx, x, rh1, by simpa using hf, rx, rfl, q1 J1 H1 _ Ext.refl rh1 (.bl _)⟩

/-! ### methods -/
def mtNm : Mt → Str
  | .append => "append" | .pop => "pop" | .popAt => "pop" | .index => "index" | .count => "count"
theorem isL_ty {K : PySem.W.Frag} {J : Jn} {H : Hp} {h : Hh} {d : D} {v : V} (rh : RH K J h H) (r : RD K J H d v) (e : d.isL h = true) : tyV K "list" v H := by
  cases r with
  | lst n m q z rr => exact .inl ⟨rfl, _, .inl (.inl q)⟩
  | fz n m q z rr => exact .inl ⟨rfl, _, .inl (.inr ⟨_, q⟩)⟩
  | kfz k z rr => exact .inl ⟨rfl, _, .inr k⟩
  | ref q =>
    obtain ⟨o, u, h1, h2, h3⟩ := rh.at q
    simp only [D.isL, h1] at e
    cases h3 with
    | lst z rr => exact .inl ⟨rfl, _, .inl (.inl h2)⟩
    | dct z rr => cases e
  | _ => cases e
theorem mth_do {r : V → List V → Hp → VK → Prop} {m : Mt} {ol : PL} {σ : L2.St} {H : Hp} {Q : VK} (hr : ∀ x xs H Q, rMt X.K m x xs H Q → r x xs H Q)
    (t : tG X.K (rD X.K) (fun ρ h => (pa.v ρ h).bind fun x h1 => if x.isL h1 then (ol.l ρ h1).bind fun xs h2 => mthOp m x xs h2 else .bad) σ H Q) : tBM X.K "list" r (tG X.K (rD X.K) pa.v) (tG X.K (rDs X.K) ol.l) σ H Q := by
  obtain ⟨ρ, h, J, re, rh, q⟩ := t
  refine (Post.step (R1 := rD X.K) (f := pa.v) re rh q).mono fun x H1 ⟨J1, h1, dx, e1, re1, rh1, rx, q1⟩ => ?_
  cases hx : dx.isL h1 with
  | false => rw [hx] at q1; exact False.elim q1
  | true =>
    rw [hx] at q1
    simp only [if_true] at q1
    refine ⟨isL_ty rh1 rx hx, ?_⟩
    refine (Post.step (R1 := rDs X.K) (f := ol.l) re1 rh1 q1).mono fun xs H2 ⟨J2, h2, ds, e2, re2, rh2, rs, q2⟩ => hr _ _ _ _ ?_
    cases ev : mthOp m dx ds h2 with
    | bad => rw [ev] at q2; exact False.elim q2
    | err _ _ => rw [ev] at q2; exact False.elim q2
    | ok d h3 => rw [ev] at q2; exact ⟨J2, h2, dx, ds, d, h3, rh2, rx.ext e2, rs, ev, q2⟩
def mtOn : Mt → Bool
  | .append => true | .pop => true | .popAt => true
  | _ => false
def mtIx : Mt → Bool
  | .index => true
  | _ => false
def baseX : Expr → Bool
  | .Call _ [] _ _ => false
  | _ => true
theorem base_of {a : Expr} {m : Str} {env : PySem.Env} {w : Sem Value} (h : baseX a = true) : attributeBase a m env w = w := by
  cases a with
  | Call f as ks p =>
    cases as with
    | nil => cases h
    | cons a as => cases f <;> rfl
  | _ => rfl
theorem few_of (cpos : Pos) (env : PySem.Env) {es : List Expr} (h : plainXs es = true) (hl : es.length < 30) : ((backTo cpos (starEach es env)).all (fun x => !x.1) && (backToKw cpos (keywordEach [] env)).all (fun x => x.1.isSome)
      && decide (es.length + ([] : List Keyword).length + (if ([] : List Keyword).isEmpty then 0 else 1) < 30)) = true := by
  have h1 : (backTo cpos (starEach es env)).all (fun x => !x.1) = true := by
    have := plainXs_any cpos env h
    rw [List.any_eq_false] at this
    rw [List.all_eq_true]
    intro x hx
    have := this x hx
    simpa using this
  rw [h1]
  simp only [Bool.true_and, Bool.and_eq_true, decide_eq_true_eq]
  exact ⟨rfl, by simpa using hl⟩
theorem se_mth {m : Mt} {es : List Expr} (hm : mtOn m = true) (hx : baseX a = true) (hline : (apos.endLine == cpos.line) = true) (hp : plainXs es = true) (hlen : es.length < 30) (h0 : es = [] → pl.l = fun _ h => .ok [] h) (ha : SE X a pa) (hl : SEs X es pl) :
    SE X (.Call (.Attribute a (mtNm m) apos) es [] cpos) (.plain fun ρ h => (pa.v ρ h).bind fun x h1 => if x.isL h1 then (pl.l ρ h1).bind fun xs h2 => mthOp m x xs h2 else .bad) := by
  have gen : ∀ {id : String} {r : V → List V → Hp → VK → Prop}, Slot "list" (mtNm m) id → typeOf (.builtin id) = pure (.type "method_descriptor") → MtR X id r → (∀ x xs H Q, rMt X.K m x xs H Q → r x xs H Q) →
      SE X (.Call (.Attribute a (mtNm m) apos) es [] cpos) (.plain fun ρ h => (pa.v ρ h).bind fun x h1 => if x.isL h1 then (pl.l ρ h1).bind fun xs h2 => mthOp m x xs h2 else .bad) := by
    intro id r slot hty hmt hr
    refine SE.plain ?_ (fun _ => rfl)
    cases es with
    | nil =>
      refine (pe_bm0 PySem.F.plainAttrs_list slot hty hmt ha.v (base_of hx) hline).imp fun σ H Q t => ?_
      refine (mth_do hr t).mono fun x H1 ⟨ty, ρ, h, J, re, rh, q⟩ => ⟨ty, ?_⟩
      rw [h0 rfl] at q
      exact q J H1 [] Ext.refl rh .nil
    | cons e es =>
      have hp' := hp
      simp only [plainXs, Bool.and_eq_true] at hp'
      exact (pe_bm PySem.F.plainAttrs_list slot hty hmt ha.v hl.l (base_of hx) (few_of _ _ hp hlen) hline (plain_star hp'.1 _ _) (plainXs_any _ _ hp'.2)).imp fun σ H Q t => mth_do hr t
  cases m with
  | append => exact gen PySem.F.slot_list_append rfl mt_appendD fun _ _ _ _ z => z
  | pop => exact gen PySem.F.slot_list_pop rfl mt_popD fun _ _ _ _ z => .inl z
  | popAt => exact gen PySem.F.slot_list_pop rfl mt_popD fun _ _ _ _ z => .inr z
  | _ => cases hm

/-! ### a written tuple whose object is known; t.index(n) -/
theorem se_ftup {es : List Expr} {pl : PL} {k : Nat} (hl : SEs X es pl) : SE X (.Tuple es k pos) (.plain fun ρ h => (pl.l ρ h).bind fun xs h1 => if sizeOk xs.length then .ok (.ftup xs) h1 else .bad) := by
  refine SE.plain ((pe_ftup hl.l).imp fun σ H Q ⟨ρ, h, J, re, rh, q⟩ => ?_) (fun _ => rfl)
  refine (Post.step (R1 := rDs X.K) (f := pl.l) re rh q).mono fun xs H1 ⟨J1, h1, ds, e1, re1, rh1, rs, q1⟩ => ?_
  split at q1
  · rename_i hz
    have hz' : xs.length ≤ sizeLine := by rw [← rs.length]; exact size_of hz
    exact ⟨hz', fun p o np hc hd => q1 _ _ _ (Ext.laid np) (rh1.laid np) (.ft (rh1.notin np) (rh1.notz np) upd_same hc hd hz' (rs.ext (Ext.laid np)))⟩
  · exact False.elim q1
theorem tint_rel {K : PySem.W.Frag} {J : Jn} {H : Hp} : ∀ {ds : List D} {vs : List V} {ns : List Int}, RDs K J H ds vs → D.ints ds = some ns → vs = ns.map V.int
  | [], _, _, .nil, e => by cases e; rfl
  | d :: ds, _, ns, .cons r t, e => by
    cases d with
    | int i =>
      simp only [D.ints, Option.map_eq_some_iff] at e
      obtain ⟨ms, e1, rfl⟩ := e
      cases r
      rw [tint_rel t e1]; rfl
    | _ => cases e
theorem stepAt {K : PySem.W.Frag} {J : Jn} {H : Hp} {h h1 : Hh} {ρ : PV.Env} {σ : L2.St} {f : PV.Env → Hh → R D} {g : D → Hh → R D} {Q : VK} {dx : D} (re : RE K J H ρ σ) (rh : RH K J h H) (ev : f ρ h = .ok dx h1) (p : Post K J H (rD K) ((f ρ h).bind g) Q) :
    tG K (rD K) f σ H (fun b H1 => ∃ J1, Ext J H J1 H1 ∧ RE K J1 H1 ρ σ ∧ RH K J1 h1 H1 ∧ rD K J1 H1 dx b ∧ Post K J1 H1 (rD K) (g dx h1) Q) := by
  refine ⟨ρ, h, J, re, rh, ?_⟩
  rw [ev] at p ⊢
  exact fun J1 H1 b e rh1 rl => ⟨J1, e, re.ext e, rh1, rl, Post.ext rh rh1 e p⟩
theorem idx_inv {ds xs : List D} {d : D} (e : idxD ds xs = some d) : ∃ z ns, xs = [.int z] ∧ D.ints ds = some ns ∧ z ∈ ns ∧ d = .int (ns.idxOf z : Nat) := by
  unfold idxD at e
  split at e
  · rename_i z
    simp only [Option.bind_eq_some_iff] at e
    obtain ⟨ns, h1, h2⟩ := e
    split at h2
    · rename_i hz; cases h2; exact ⟨z, ns, rfl, h1, hz, rfl⟩
    · cases h2
  · cases e
theorem ixs_st {K : PySem.W.Frag} {J2 : Jn} {H2 : Hp} {h2 : Hh} {d : D} {v : V} {ds : List D} (rh2 : RH K J2 h2 H2) (r : RD K J2 H2 d v) (hf : d.isF = false) (e : d.ixs h2 = some ds) : ∃ p vs, v = .ref p ∧ SqL K H2 p vs ∧ RDs K J2 H2 ds vs := by
  cases d with
  | lst xs =>
    cases e
    obtain ⟨p, vs, rfl, hq, z, rr⟩ := res_inv rh2 rfl r
    exact ⟨p, vs, rfl, hq, rr⟩
  | fz xs =>
    cases e
    obtain ⟨p, vs, rfl, hq, z, rr⟩ := res_inv rh2 rfl r
    exact ⟨p, vs, rfl, hq, rr⟩
  | ref i =>
    cases r with
    | ref q =>
      obtain ⟨o, u, h1, h2', h3⟩ := rh2.at q
      simp only [D.ixs, h1] at e
      cases h3 with
      | lst z rr => cases e; exact ⟨_, _, rfl, .inl (.inl h2'), rr⟩
      | dct z rr => cases e
  | ftup xs => cases hf
  | _ => cases e
theorem se_tidx {es : List Expr} {e0 : Expr} (hx : baseX a = true) (hline : (apos.endLine == cpos.line) = true) (hp : plainXs (e0 :: es) = true) (hlen : (e0 :: es).length < 30) (ha : SE X a pa) (hl : SEs X (e0 :: es) pl) :
    SE X (.Call (.Attribute a "index" apos) (e0 :: es) [] cpos) (mthI pa pl) := by
  have hp' := hp
  simp only [plainXs, Bool.and_eq_true] at hp'
  refine SE.plain ⟨fun pins s σ H Q I ⟨ρ, h, J, re, rh, q⟩ => ?_⟩ (fun _ => rfl)
  dsimp only at q
  have q0 := q
  cases ev : pa.v ρ h with
  | bad => rw [ev] at q; exact False.elim q
  | err _ _ => rw [ev] at q; exact False.elim q
  | ok dx h1 =>
    cases hi : (dx.ixs h1).isSome with
    | false => rw [ev] at q; simp only [R.bind_ok, hi] at q; exact False.elim q
    | true =>
      have st := stepAt re rh ev q0
      have rest : ∀ (S : PySem.W.Frag → Hp → Addr → List V → Prop) (J1 : Jn) (H1 : Hp) (b : V), RE X.K J1 H1 ρ σ → RH X.K J1 h1 H1 → (∀ J2 h2 H2 ds, Ext J1 H1 J2 H2 → RH X.K J2 h2 H2 → dx.ixs h2 = some ds → ∃ p vs, b = .ref p ∧ S X.K H2 p vs ∧ RDs X.K J2 H2 ds vs) →
          Post X.K J1 H1 (rD X.K) (if (dx.ixs h1).isSome then (pl.l ρ h1).bind fun xs h2 => R.opt (ixD dx h2 xs) h2 else .bad) Q → tG X.K (rDs X.K) pl.l σ H1 (fun xs H2 => rIdx S X.K b xs H2 Q) := by
        intro S J1 H1 b re1 rh1 hS q1
        simp only [hi, if_true] at q1
        refine (Post.step (R1 := rDs X.K) (f := pl.l) re1 rh1 q1).mono fun xs H2 ⟨J2, h2, es2, e2, re2, rh2, rs, q2⟩ => ?_
        obtain ⟨d, hd, q3⟩ := Post.optX q2
        unfold ixD at hd
        simp only [Option.bind_eq_some_iff] at hd
        obtain ⟨ds, hds, hd⟩ := hd
        obtain ⟨z, ns, rfl, hn, hz, rfl⟩ := idx_inv hd
        obtain ⟨p, vs, rfl, hs, rr⟩ := hS J2 h2 H2 ds e2 rh2 hds
        rw [tint_rel rr hn] at hs
        obtain ⟨w, rfl, r1⟩ := one_inv rs
        cases r1
        exact ⟨p, ns, z, rfl, rfl, hs, hz, q3 _ _ _ Ext.refl rh2 (.int _)⟩
      cases hf : dx.isF with
      | true =>
        cases dx with
        | ftup xs =>
          refine (pe_fm PySem.F.slot_tuple_index rfl mt_tupIdx ha.v hl.l (base_of hx) (few_of _ _ hp hlen) hline (plain_star hp'.1 _ _) (plainXs_any _ _ hp'.2)).run pins s σ H Q I ?_
          obtain ⟨ρ', h', J', re', rh', p'⟩ := st
          refine ⟨ρ', h', J', re', rh', Post.mono p' fun b H1 ⟨J1, e1, re1, rh1, rx, q1⟩ => ?_⟩
          cases rx with
          | ft n m q c d z rr => exact ⟨⟨_, _, _, rfl, q, c, d⟩, rest SqT J1 H1 _ re1 rh1 (fun J2 h2 H2 ds e2 _ ed => ⟨_, _, rfl, .inl (.inr ⟨_, e2.keep _ _ n q⟩), by cases ed; exact rr.ext e2⟩) q1⟩
        | exc k => exact absurd hi (by simp [D.ixs])
        | exf k f d => exact absurd hi (by simp [D.ixs])
        | _ => cases hf
      | false =>
        refine (pe_bm PySem.F.plainAttrs_list PySem.F.slot_list_index rfl mt_lstIdx ha.v hl.l (base_of hx) (few_of _ _ hp hlen) hline (plain_star hp'.1 _ _) (plainXs_any _ _ hp'.2)).run pins s σ H Q I ?_
        obtain ⟨ρ', h', J', re', rh', p'⟩ := st
        refine ⟨ρ', h', J', re', rh', Post.mono p' fun b H1 ⟨J1, e1, re1, rh1, rx, q1⟩ => ?_⟩
        obtain ⟨ds, eds⟩ := Option.isSome_iff_exists.mp hi
        obtain ⟨p, vs, rfl, hq, rr⟩ := ixs_st rh1 rx hf eds
        exact ⟨.inl ⟨rfl, _, hq⟩, rest SqL J1 H1 _ re1 rh1 (fun J2 h2 H2 ds e2 rh2 ed => ixs_st rh2 (rx.ext e2) hf ed) q1⟩

/-! ### tuple(enumerate(a tuple)) -/
theorem se_tenum {ep : Pos} {cp : Pos} (o : Ok c F G X) (hm : ("tuple" : Str) ∈ c.bs) (hg : c.glb "tuple" = true) (hm2 : ("enumerate" : Str) ∈ c.bs) (hg2 : c.glb "enumerate" = true) (hp : plainX a = true) (ha : SE X a pa) :
    SE X (.Call (.Name "tuple" np) [.Call (.Name "enumerate" ep) [a] [] cp] [] pos) (.plain fun ρ h => (pa.v ρ h).bind fun x h1 => R.opt (tenumOp x) h1) := by
  refine SE.plain ⟨fun pins s σ H Q I ⟨ρ, h, J, re, rh, q⟩ => ?_⟩ (fun _ => rfl)
  refine wpAny_Call_Name_kw (ld_blt I (glb_ok o hg).1 (o.blt _ hm) rfl (PyProof.Rows.callWith_type1 ?_ rfl rfl) (by decide) (glb_ok o hg).2)
  show wpAny _ _ (spliced [(false, eval (.Call (.Name "enumerate" ep) [a] [] cp) X.env)]) _ _ s
  refine Calls.spliced_cons ?_
  refine wpAny_Call_Name_kw (ld_blt I (glb_ok o hg2).1 (o.blt _ hm2) rfl (PyProof.Rows.callWith_type1 ?_ (plain_star hp _ _) rfl) (by decide) (glb_ok o hg2).2)
  have step : tCons (tG X.K (rD X.K) pa.v) tNil σ H (fun xs H1 => ∃ y, xs = [y] ∧ ∃ J1 h1 dx, Ext J H J1 H1 ∧ RE X.K J1 H1 ρ σ ∧ RH X.K J1 h1 H1 ∧ RD X.K J1 H1 dx y ∧ Post X.K J1 H1 (rD X.K) (R.opt (tenumOp dx) h1) Q) :=
    (Post.step (R1 := rD X.K) (f := pa.v) re rh q).mono fun b H1 z => ⟨b, rfl, z⟩
  refine thn ((pa_cons ha.v pa_nil (plain_star hp _ _)).run cp pins s σ H _ I step) fun us s1 ⟨xs, H1, I1, r1, y, ex, J1, h1, dx, e1, re1, rh1, rx, q1⟩ => ?_
  subst ex
  obtain ⟨u, rfl, ru⟩ : ∃ u, us = [u] ∧ L2.RelV y u := by
    cases r1 with | cons p t => cases t; exact ⟨_, rfl, p⟩
  cases ht : tenumOp dx with
  | none => rw [ht] at q1; exact False.elim q1
  | some d =>
    rw [ht] at q1
    unfold tenumOp at ht
    split at ht
    · rename_i ds
      split at ht
      · cases ht
        obtain ⟨a0, vs0, ey, _⟩ := rx.tup_inv
        subst ey
        cases (show u = Value.ref a0 from ru)
        refine thn (tenum_run o.calm I1 rh1 rx fun J' H' v e2 rh2 rv => q1 J' H' v e2 rh2 rv) fun ev s2 hv => Calls.spliced_nil hv
      · cases ht
    · cases ht
/-! ### sorted(set(a list of ints)) -/
theorem sset_some {h : Hh} {x d : D} (e : ssetOp h x = some d) : ∃ ds ns, x.res h = .lst ds ∧ D.ints ds = some ns ∧ ns.length < 64 ∧ d = .lst ((srtD ns).map .int) := by
  unfold ssetOp at e
  simp only [Option.bind_eq_some_iff] at e
  obtain ⟨ns, ⟨ds, e1, e2⟩, e3⟩ := e
  split at e3
  · rename_i hz; cases e3; exact ⟨ds, ns, lstOf_inv e1, e2, hz, rfl⟩
  · cases e3
theorem fresh_at {K : PySem.W.Frag} {J J1 : Jn} {H H1 : Hp} {h1 : Hh} {p : Addr} (e1 : Ext J H J1 H1) (rh1 : RH K J1 h1 H1) (np : H1 p = none) : H p = none := by
  cases hp : H p with
  | none => rfl
  | some u =>
    exfalso
    by_cases n : p ∈ J.l
    · obtain ⟨m, hm, _⟩ := e1.pre
      obtain ⟨u', h2⟩ := rh1.inl (a := p) (by rw [hm]; exact List.mem_append_left _ n)
      rw [np] at h2; cases h2
    · have := e1.keep p u n hp; rw [np] at this; cases this
theorem se_ssetF {ep : Pos} {cp : Pos} (o : Ok c F G X) (hm : ("sorted" : Str) ∈ c.bs) (hg : c.glb "sorted" = true) (hm2 : ("set" : Str) ∈ c.bs) (hg2 : c.glb "set" = true) (hp : plainX a = true) (ha : SE X a pa) :
    PE X (.Call (.Name "sorted" np) [.Call (.Name "set" ep) [a] [] cp] [] pos) (tF X.K fun ρ h => (pa.v ρ h).bind fun x h1 => R.opt (ssetOp h1 x) h1) := by
  have inner := pe_callTy (p := ep) (pos := cp) (PVX.cr_setL (X := X) o.calm) (glb_ok o hg2).1 (o.blt _ hm2) rfl (pa_cons ha.v pa_nil (plain_star hp _ _)) (by decide) (glb_ok o hg2).2 (plain_star hp _ _) rfl
  refine (pe_callB (p := np) (pos := pos) (cr_sortedSet (X := X) o.calm) (glb_ok o hg).1 (o.blt _ hm) rfl (pa_cons inner pa_nil rfl) (by decide) (glb_ok o hg).2 rfl rfl).imp fun σ H Q ⟨ρ, h, J, re, rh, q⟩ => ?_
  refine ⟨ρ, h, J, re, rh, ?_⟩
  dsimp only at q
  cases ev : pa.v ρ h with
  | bad => rw [ev] at q; exact False.elim q
  | err _ _ => rw [ev] at q; exact False.elim q
  | ok dx h1 =>
    rw [ev, R.bind_ok] at q
    intro J1 H1 b e1 rh1 rx
    cases hs : ssetOp h1 dx with
    | none => rw [hs] at q; exact False.elim q
    | some d =>
      rw [hs] at q
      obtain ⟨ds, ns, r1, r2, h64, rfl⟩ := sset_some hs
      obtain ⟨p, ws, rfl, hq, z, rr⟩ := res_inv rh1 r1 rx
      obtain rfl := ints_rel rr r2
      refine ⟨p, ns, rfl, hq, h64, fun p2 k np2 hk => ⟨p2, _, k, rfl, upd_same, by omega, fun ms p3 pw mem len np3 => ?_⟩⟩
      have em : ms = srtD ns := srtD_eq pw fun z => by rw [mem z]; exact decide_eq_true_iff
      subst em
      have rh2 := rh1.laid (o := SetO X.w p2 (fun j => decide (j ∈ ns)) k) np2
      have e2 := e1.trans rh rh1 (Ext.laid (o := SetO X.w p2 (fun j => decide (j ∈ ns)) k) np2)
      refine q (J1.hide p3) _ p3 _ ⟨rfl, e2.pre, fun a o n q => by rw [upd_ne (ne_of_none (e2.keep a o n q) np3)]; exact e2.keep a o n q⟩ ?_ (rh2.hide np3) upd_same ?_ (((rds_ints (srtD ns)).sub (Sub.hide np3)).ext (Ext.laid np3)) (fresh_at e2 rh2 np3)
      · show p3 :: J1.z = p3 :: J.z; rw [e1.z]
      · rw [List.length_map]
        rw [sizeLine_eq]; omega
theorem sset_lst {ρ : Env} {h : Hh} {d : D} {h' : Hh} (e : ((pa.v ρ h).bind fun x h1 => R.opt (ssetOp h1 x) h1) = .ok d h') : ∃ ds, d = .lst ds := by
  cases ev : pa.v ρ h with
  | bad => rw [ev] at e; cases e
  | err _ _ => rw [ev] at e; cases e
  | ok x h1 =>
    rw [ev, R.bind_ok] at e
    cases hs : ssetOp h1 x with
    | none => rw [hs] at e; cases e
    | some d2 =>
      rw [hs] at e
      cases e
      obtain ⟨ds, ns, r1, r2, h64, rfl⟩ := sset_some hs
      exact ⟨_, rfl⟩
theorem se_sset {ep : Pos} {cp : Pos} (o : Ok c F G X) (hm : ("sorted" : Str) ∈ c.bs) (hg : c.glb "sorted" = true) (hm2 : ("set" : Str) ∈ c.bs) (hg2 : c.glb "set" = true) (hp : plainX a = true) (ha : SE X a pa) :
    SE X (.Call (.Name "sorted" np) [.Call (.Name "set" ep) [a] [] cp] [] pos) (.plain fun ρ h => (pa.v ρ h).bind fun x h1 => R.opt (ssetOp h1 x) h1) :=
  SE.plain (tF_val (se_ssetF o hm hg hm2 hg2 hp ha) fun _ _ _ _ e => sset_lst e) (fun _ => rfl)
end
end
end PV
end

section
set_option maxRecDepth 100000
/-! PvV: enumerate of a tuple in a loop, dict comprehensions, tuple(range(n)). -/
namespace PV
open L2 PySem PySem.Spec PyProof.Rows
/-! ### enumerate(a tuple) -/
/-- how the enumerating object e and the walk w over the tuple t stand ahead of place i -/
structure EnS (t e w : Addr) (i : Nat) (h : Heap) : Prop where
  en : ∃ old, IsEnum h e w (i : Int) old
  wk : h.IsTupleIter w t i
  ne : e ≠ w
section
variable {t e w : Addr} {i : Nat} {h g : Heap} {items : Array Value}
theorem two_mem {c : Addr} (hc : c ∈ [e, w]) : c = e ∨ c = w := (List.mem_cons.mp hc).imp_right List.mem_singleton.mp
theorem EnS.objs (x : EnS t e w i h) {c : Addr} (hc : c ∈ [e, w]) : ∃ o, h.get? c = some o ∧ ∀ v, o.data ≠ .cell v := by
  rcases two_mem hc with rfl | rfl
  · obtain ⟨_, q⟩ := x.en
    exact ⟨_, q, nofun⟩
  · obtain ⟨o, q, _, d⟩ := x.wk
    exact ⟨o, q, by rw [d]; exact nofun⟩
theorem EnS.lt (x : EnS t e w i h) {c : Addr} (hc : c ∈ [e, w]) : c < h.objs.size :=
  let ⟨_, q, _⟩ := x.objs hc; Heap.lt_size q
theorem EnS.stay (x : EnS t e w i h) (k : ∀ c ∈ [e, w], ∀ o, h.get? c = some o → g.get? c = some o) : EnS t e w i g :=
  ⟨x.en.imp fun _ q => k e (List.mem_cons_self ..) _ q, x.wk.at fun o q => k w (List.mem_cons_of_mem _ (List.mem_singleton.mpr rfl)) o q, x.ne⟩
/-- the tuple is none of the two: it is of another class -/
theorem EnS.other (x : EnS t e w i h) (p : h.IsTuple t items) {c : Addr} (hc : c ∈ [e, w]) : t ≠ c := by
  obtain ⟨o, ho, cl, _⟩ := p
  rintro rfl
  rcases two_mem hc with rfl | rfl
  · obtain ⟨_, q⟩ := x.en
    have q := Option.some.inj ((show h.get? t = some _ from q).symm.trans ho)
    rw [← q] at cl
    exact absurd cl (by simp)
  · obtain ⟨o2, q, cl2, _⟩ := x.wk
    cases Option.some.inj (q.symm.trans ho)
    rw [cl2] at cl
    exact absurd cl (by simp)
theorem EnS.eMem : e ∈ [e, w] := List.mem_cons_self ..
theorem EnS.wMem : w ∈ [e, w] := List.mem_cons_of_mem _ (List.mem_singleton.mpr rfl)
end
/-- the items of the tuple at t, in new pairs with their places -/
def IteT (K : PySem.W.Frag) (t : Addr) : It where
  go i H := ∃ (vs : List V) (y : V), SqT K H t vs ∧ vs[i]? = some y
  yld i H v H' := ∃ p y, v = .ref p ∧ H p = none ∧ H' = upd H p (.tup [.int (i : Nat), y]) ∧ ∀ vs, SqT K H t vs → vs[i]? = some y
  stop i H := ∃ vs : List V, SqT K H t vs ∧ vs.length = i
section
variable {X : Cx} {pins : List (Addr × Obj)} {σ : L2.St} {H : Hp} {s : Shared} {E : Value → Shared → Prop} {t e w : Addr} {i : Nat}
/-- one more pair -/
theorem enT_item {elts : List Expr} {kk : Nat} {tp : Pos} (hc : X.calm = true) (I : L2.Inv X pins σ H s) (hf : ∀ c ∈ [e, w], FpOk X pins H c) (x : EnS t e w i s.heap) {vs : List V} {y : V} (hq : SqT X.K H t vs) (hy : vs[i]? = some y) :
    wpAny (model X.prog X.w) X.A (pyNext (.ref e)) (fun r s1 => ∃ u, r = some u ∧
      wpAny (model X.prog X.w) X.A (letOwnedTupleGo (.Tuple elts kk tp) (.ref e) u) (fun _ s2 => ∃ v H', L2.Inv X pins σ H' s2 ∧ L2.RelV v u ∧ (IteT X.K t).yld i H v H' ∧ EnS t e w (i + 1) s2.heap ∧ ∀ c ∈ [e, w], H' c = none) E s1) E s := by
  obtain ⟨us, ru, tp1, _⟩ := I.tuple hq
  obtain ⟨u, hu, ry⟩ := ru.get hy
  obtain ⟨old, en⟩ := x.en
  have size : i < us.toArray.size := by rw [List.size_toArray]; exact (List.getElem?_eq_some_iff.mp hu).1
  have nw := x.other tp1 EnS.wMem
  have fresh : ∀ c ∈ [e, w], c ≠ s.heap.objs.size := fun c hc => Nat.ne_of_lt (x.lt hc)
  refine wpAny_pyNext_enum_itemD (Draws.tuple (A := X.A.in1) (I.ok.hd hc) w t nw us.toArray) en ⟨x.wk, tp1⟩ size x.ne (fun hm => ?_) fun u0 g tk pu out next laid _ keep => ?_
  · rcases two_mem (e := w) (w := t) hm with z | z
    · exact x.ne z
    · exact x.other tp1 EnS.eMem z.symm
  have eu : u0 = u := by
    have pu : us.toArray[i]? = some u0 := pu
    rw [List.getElem?_toArray, hu] at pu
    exact (Option.some.inj pu).symm
  subst eu
  refine ⟨_, rfl, wpAny_letOwnedTupleGo_enum (s := { s with heap := g, toks := tk + 1 }) out fun g2 out2 same => ?_⟩
  have laid2 := (same.2 s.heap.objs.size (fresh e EnS.eMem).symm).trans laid
  have pair : ObjOk X.prog X.w (upd H s.heap.objs.size (.tup [.int (i : Nat), y])) g2 s.heap.objs.size (.tup [.int (i : Nat), y]) :=
    ⟨show 2 ≤ sizeLine by decide, _, .cons ⟨tk, rfl⟩ (.cons ry .nil), _, laid2, rfl, _, rfl⟩
  have kept : ∀ c o, c ∉ [e, w] → s.heap.get? c = some o → g2.get? c = some o := fun c o nc q => by
    have ne : c ≠ e := fun z => nc (z ▸ EnS.eMem)
    have nw : c ≠ w := fun z => nc (z ▸ EnS.wMem)
    exact (same.2 c ne).trans (keep c o ne nw q)
  have J := I.turnedNew (t' := tk + 1) kept hf (Nat.le_refl _) pair
  refine ⟨.ref s.heap.objs.size, _, J, rfl, ⟨_, y, rfl, I.hok.fresh (Nat.le_refl _), rfl, fun ws hw => by rw [I.tuple_inj hw hq]; exact hy⟩, ⟨⟨u0, ?_⟩, next.1.at fun o q => (same.2 w x.ne.symm).trans q, x.ne⟩, fun c hc => ?_⟩
  · have step : (i : Int) + 1 = ((i + 1 : Nat) : Int) := by omega
    exact step ▸ out2
  · rw [upd_ne (fresh c hc)]; exact (hf c hc).1
/-- none is left -/
theorem enT_done (hc : X.calm = true) (I : L2.Inv X pins σ H s) (hf : ∀ c ∈ [e, w], FpOk X pins H c) (x : EnS t e w i s.heap) {vs : List V} (hq : SqT X.K H t vs) (hi : vs.length = i) :
    wpAny (model X.prog X.w) X.A (pyNext (.ref e)) (fun r s1 => r = none ∧ L2.Inv X pins σ H s1) E s := by
  obtain ⟨us, ru, tp1, _⟩ := I.tuple hq
  obtain ⟨old, en⟩ := x.en
  have size : i = us.toArray.size := by rw [List.size_toArray, ← ru.length, hi]
  have wk := x.wk
  rw [size] at wk
  obtain ⟨f0, f1, _, f3, f4, f5⟩ := hf w EnS.wMem
  exact wpAny_pyNext_enum_endD (Draws.tuple (A := X.A.in1) (I.ok.hd hc) w t (x.other tp1 EnS.wMem) us.toArray) en ⟨wk, tp1⟩ fun g gone => ⟨rfl, I.turned (t' := s.toks) (fun c o nc q => gone c o nc q) f0 f1 f3 f4 f5⟩
end
theorem turn_enT {P : Program} {wd : World} {K : PySem.W.Frag} {elts : List Expr} {kk : Nat} {tp : Pos} (t e w : Addr) : Turn P wd K (.Tuple elts kk tp) (IteT K t) [e, w] e (EnS t e w) where
  mem := EnS.eMem
  obj _ _ x _ hc := x.objs hc
  keep _ _ _ x k := x.stay k
  item X hP hw hK hc i pins s σ H E I hf x hg := by
    obtain ⟨vs, y, hq, hy⟩ := hg
    subst hP; subst hw; subst hK
    exact enT_item hc I hf x hq hy
  done X hP hw hK hc i pins s σ H E I hf x hg := by
    obtain ⟨vs, hq, hi⟩ := hg
    subst hP; subst hw; subst hK
    exact enT_done hc I hf x hq hi
  self _ _ _ _ _ x q := x.en.elim fun _ en => wpAny_pyIter_enum en q
def iEnumT (K : PySem.W.Frag) (ta : TA) : TI := fun σ H R => ta σ H fun vs H1 => ∃ t ys, vs = [.ref t] ∧ SqT K H1 t ys ∧ R (IteT K t) H1
theorem pi_enumT {X : Cx} {a : Expr} {ta : TA} {p pos tp : Pos} {elts : List Expr} {kk : Nat} (hg : Gl X "enumerate") (hm : X.mg "enumerate" = none) (ha : PA X [a] ta) (hs : starEach [a] X.env = [(false, eval a X.env)] := by rfl) :
    PI X (.Tuple elts kk tp) (.Call (.Name "enumerate" p) [a] [] pos) (iEnumT X.K ta) where
  run pins s σ H R I q := by
    have arg := ha.run pos pins s σ H _ I q
    refine Call_ (ld_blt I hg hm boot_enumerate (PyProof.Rows.callWith_type1 (thn arg fun us s1 hu => ?_) hs rfl))
    obtain ⟨vs, H1, I1, rel, t, ys, ev, hq, r⟩ := hu
    subst ev
    obtain ⟨u, rfl, ru⟩ : ∃ u, us = [u] ∧ L2.RelV (.ref t) u := by
      cases rel with | cons p q => cases q; exact ⟨_, rfl, p⟩
    cases (show u = Value.ref t from ru)
    obtain ⟨_, _, tp1, _⟩ := I1.tuple hq
    refine PVQ.call_enumT tp1 fun g en wk size keep => wpAny_pyIter_enum en ?_
    have I2 : L2.Inv X pins σ H1 { s1 with heap := g } := I1.kept (t' := s1.toks) keep
    refine ⟨s1.heap.objs.size + 1, [s1.heap.objs.size + 1, s1.heap.objs.size], _, _, H1, rfl, I2, turn_enT t _ _, ⟨⟨.none, en⟩, wk, Nat.succ_ne_self _⟩, fun c hc => ?_, r⟩
    have big : s1.heap.objs.size ≤ c := (two_mem hc).elim (fun z => z ▸ Nat.le_succ _) fun z => z ▸ Nat.le_refl _
    exact I1.fpOk big (I1.hok.fresh big)
end PV
namespace PV
open L2 PySem PySem.Spec PyProof.Rows
section
variable {X : Cx} {e x a b tg : Expr} {p pa pb pc : P} {pos : Pos} {K : PySem.W.Frag} {J : Jn} {H : Hp} {h : Hh}
/-! ### enumerate as a source -/
theorem enumD_get : ∀ {xs : List D} {n i : Nat} {d : D}, (enumD n xs)[i]? = some d → ∃ x, xs[i]? = some x ∧ d = .tup [.int ((n + i : Nat) : Int), x]
  | [], _, _, _, e => by simp [enumD] at e
  | x :: xs, n, 0, d, e => by simp [enumD] at e; exact ⟨x, rfl, by rw [← e]; rfl⟩
  | x :: xs, n, i + 1, d, e => by
    have e : (enumD (n + 1) xs)[i]? = some d := by simpa [enumD] using e
    obtain ⟨y, h1, h2⟩ := enumD_get e
    refine ⟨y, by simpa using h1, ?_⟩
    rw [h2]
    have : n + 1 + i = n + (i + 1) := by omega
    rw [this]
theorem enumD_len : ∀ {xs : List D} {n : Nat}, (enumD n xs).length = xs.length
  | [], _ => rfl
  | x :: xs, n => by show (enumD (n + 1) xs).length + 1 = _; rw [enumD_len]; rfl
theorem ite_ok {a : Addr} {ds : List D} {vs : List V} (st : ∀ {J2 : Jn} {H2 : Hp}, Sub J H J2 H2 → SqL K H2 a vs) (r : RDs K J H ds vs) : ItOk K J H (Ite K a) ⟨enumD 0 ds, none⟩ := by
  refine ⟨fun {J2 h2 H2 i d} s rh _ hd => ?_, fun {J2 h2 H2} s rh _ => ⟨vs, st s, by show vs.length ≤ (enumD 0 ds).length; rw [enumD_len, r.length]; exact Nat.le_refl _⟩⟩
  obtain ⟨y, hy, rfl⟩ := enumD_get hd
  obtain ⟨v, hv, rv⟩ := r.get hy
  refine ⟨⟨vs, v, st s, hv⟩, fun x H3 ⟨T, x', e1, nT, e2, f⟩ => ?_⟩
  have := f vs (st s)
  rw [hv] at this; cases this
  subst e1 e2
  refine ⟨Ext.laid nT, rh.laid nT, ?_⟩
  rw [Nat.zero_add]
  exact RD.newTup rh nT (.cons (.int _) (.cons (rv.sub s) .nil)) two_ok
theorem iteT_ok {a : Addr} {ds : List D} {vs : List V} (st : ∀ {J2 : Jn} {H2 : Hp}, Sub J H J2 H2 → SqT K H2 a vs) (r : RDs K J H ds vs) : ItOk K J H (IteT K a) ⟨enumD 0 ds, none⟩ := by
  refine ⟨fun {J2 h2 H2 i d} s rh _ hd => ?_, fun {J2 h2 H2} s rh _ => ⟨vs, st s, by show vs.length = (enumD 0 ds).length; rw [enumD_len, r.length]⟩⟩
  obtain ⟨y, hy, rfl⟩ := enumD_get hd
  obtain ⟨v, hv, rv⟩ := r.get hy
  refine ⟨⟨vs, v, st s, hv⟩, fun x H3 ⟨T, x', e1, nT, e2, f⟩ => ?_⟩
  have := f vs (st s)
  rw [hv] at this; cases this
  subst e1 e2
  refine ⟨Ext.laid nT, rh.laid nT, ?_⟩
  rw [Nat.zero_add]
  exact RD.newTup rh nT (.cons (.int _) (.cons (rv.sub s) .nil)) two_ok
theorem pi_enumS {pp tp : Pos} {elts : List Expr} {kk : Nat} (hg : Gl X "enumerate") (hm : X.mg "enumerate" = none) (hp : plainX a = true) (ha : SE X a pa) :
    PI X (.Tuple elts kk tp) (.Call (.Name "enumerate" pp) [a] [] pos) (tI X.K fun ρ h => (pa.v ρ h).bind fun x h1 => R.opt (enumSrc x) h1) := by
  have hs : starEach [a] X.env = [(false, eval a X.env)] := plain_star hp [] _
  refine ⟨fun pins s σ H Rr I ⟨ρ, h, J, re, rh, q⟩ => ?_⟩
  dsimp only at q
  cases ev : pa.v ρ h with
  | bad => rw [ev] at q; exact False.elim q
  | err _ _ => rw [ev] at q; exact False.elim q
  | ok d h1 =>
    rw [ev, R.bind_ok] at q
    cases es : enumSrc d with
    | none => rw [es] at q; exact False.elim q
    | some src =>
      rw [es] at q
      have q : ∀ J' H' it, Ext J H J' H' → RH X.K J' h1 H' → ItOk X.K J' H' it src → Rr it H' := q
      have one : ∀ {P : V → Hp → Prop}, (∀ J' H' v, Ext J H J' H' → RH X.K J' h1 H' → RD X.K J' H' d v → P v H') → tCons (tG X.K (rD X.K) pa.v) tNil σ H (fun xs H1 => ∃ y, xs = [y] ∧ P y H1) := fun {P} f =>
        (⟨ρ, h, J, re, rh, by rw [ev]; exact fun J1 H1 b e rh1 rl => ⟨b, rfl, f J1 H1 b e rh1 rl⟩⟩ : tG X.K (rD X.K) pa.v σ H (fun b H1 => ∃ y, [b] = [y] ∧ P y H1))
      have lists : (∃ ds, (d = .lst ds ∨ d = .fz ds) ∧ src = ⟨enumD 0 ds, none⟩) → wpAny (model X.prog X.w) X.A (eval (.Call (.Name "enumerate" pp) [a] [] pos) X.env) (fun v s1 => wpAny (model X.prog X.w) X.A (pyIter v) (PIE X pins σ (.Tuple elts kk tp) Rr) X.xe s1) X.xe s := by
        rintro ⟨ds, hd, rfl⟩
        refine (pi_enum hg hm (pa_cons ha.v pa_nil hs) hs).run pins s σ H Rr I ?_
        have := one (P := fun y H1 => ∃ a xs, y = V.ref a ∧ SqL X.K H1 a xs ∧ Rr (Ite X.K a) H1) fun J' H' v e1 rh' rv => by
          obtain ⟨p, vs, rfl, hq, z, rr⟩ := lst_st hd rv
          exact ⟨p, vs, rfl, hq Sub.refl, q J' H' _ e1 rh' (ite_ok hq rr)⟩
        refine tG.mono this fun b H1 ⟨y, ey, a0, xs, e1, e2, e3⟩ => ?_
        cases ey
        exact ⟨a0, xs, by rw [e1], e2, e3⟩
      cases d with
      | lst ds => cases es; exact lists ⟨ds, .inl rfl, rfl⟩
      | fz ds => cases es; exact lists ⟨ds, .inr rfl, rfl⟩
      | tup ds =>
        cases es
        refine (pi_enumT hg hm (pa_cons ha.v pa_nil hs) hs).run pins s σ H Rr I ?_
        have := one (P := fun y H1 => ∃ a xs, y = V.ref a ∧ SqT X.K H1 a xs ∧ Rr (IteT X.K a) H1) fun J' H' v e1 rh' rv => by
          obtain ⟨p, vs, rfl, hq, z, rr⟩ := tup_st rv
          exact ⟨p, vs, rfl, hq Sub.refl, q J' H' _ e1 rh' (iteT_ok hq rr)⟩
        refine tG.mono this fun b H1 ⟨y, ey, a0, xs, e1, e2, e3⟩ => ?_
        cases ey
        exact ⟨a0, xs, by rw [e1], e2, e3⟩
      | _ => cases es

/-! ### dict comprehensions -/
theorem valP_put {kvs : List (Key × D)} {kws : List (Key × V)} {k : Key} {d : D} {v : V} (r : Paired (fun p q => p.1 = q.1 ∧ RD K J H p.2 q.2) kvs kws) (rv : RD K J H d v) :
    Paired (fun p q => p.1 = q.1 ∧ RD K J H p.2 q.2) (putD kvs k d) (putK kws k v) := by
  have ha : ∀ {kvs : List (Key × D)} {kws : List (Key × V)}, Paired (fun p q => p.1 = q.1 ∧ RD K J H p.2 q.2) kvs kws → (kvs.any fun kv => decide (kv.1 = k)) = kws.any fun kv => decide (kv.1 = k) := by
    intro kvs kws r
    induction r with
    | nil => rfl
    | cons x t ih => simp only [List.any_cons, ih, x.1]
  have hm : ∀ {kvs : List (Key × D)} {kws : List (Key × V)}, Paired (fun p q => p.1 = q.1 ∧ RD K J H p.2 q.2) kvs kws → Paired (fun p q => p.1 = q.1 ∧ RD K J H p.2 q.2) (kvs.map fun kv => if kv.1 = k then (kv.1, d) else kv) (kws.map fun kv => if kv.1 = k then (kv.1, v) else kv) := by
    intro kvs kws r
    induction r with
    | nil => exact .nil
    | @cons p q ps qs x t ih =>
      refine .cons ?_ ih
      dsimp only
      by_cases hk : p.1 = k
      · rw [if_pos hk, if_pos (x.1 ▸ hk)]; exact ⟨x.1, rv⟩
      · rw [if_neg hk, if_neg (x.1 ▸ hk)]; exact x
  have hap : ∀ {kvs : List (Key × D)} {kws : List (Key × V)}, Paired (fun p q => p.1 = q.1 ∧ RD K J H p.2 q.2) kvs kws → Paired (fun p q => p.1 = q.1 ∧ RD K J H p.2 q.2) (kvs ++ [(k, d)]) (kws ++ [(k, v)]) := by
    intro kvs kws r
    induction r with
    | nil => exact .cons ⟨rfl, rv⟩ .nil
    | cons x t ih => exact .cons x ih
  unfold putD putK
  rw [ha r]
  split
  · exact hm r
  · exact hap r
theorem putK_le {kws : List (Key × V)} {k : Key} {v : V} : (putK kws k v).length ≤ kws.length + 1 := by
  unfold putK
  split
  · rw [List.length_map]; omega
  · rw [List.length_append]; exact Nat.le_refl _
theorem dc_read {t : Tg} {f : Env → Hh → R Src} {pt pk pv : P} {σ : L2.St} {Q : VK} (hq : tG K (rD K) (fun ρ h => (f ρ h).bind fun s h1 => if sizeOk s.items.length then (dcLoop s.good (dcTurn t pt pk pv ρ) s.items [] h1).bind newDct else .bad) σ H Q) :
    tDc (tI K f) (gD K t t.slots) (tG K rB pt.t) (tG K (rD K) pk.v) (tG K (rD K) pv.v) t.slots σ H Q := by
  obtain ⟨ρ, h, J, re, rh, q⟩ := hq
  refine ⟨ρ, h, J, re, rh, ?_⟩
  dsimp only at q
  cases ev : f ρ h with
  | bad => rw [ev] at q; exact q
  | err _ _ => rw [ev] at q; exact q
  | ok src h1 =>
    rw [ev, R.bind_ok] at q
    cases hsi : sizeOk src.items.length with
    | false => rw [hsi] at q; exact False.elim q
    | true =>
    rw [hsi] at q
    simp only [if_true] at q
    intro J1 H1 it e1 rh1 itok D nD
    have nDH : H D = none := fresh_at e1 rh1 nD
    let W : Nat → Nat → Hp → Prop := fun i m H2 => m = src.items.length - i ∧ i ≤ src.items.length ∧ ∃ J2 h2 acc kws, J2.z = D :: J.z ∧ Ext J H ⟨J2.l, J.z⟩ H2 ∧ Sub J1 H1 J2 H2 ∧ RH K J2 h2 H2 ∧ H2 D = some (.dK kws) ∧ kws.length ≤ i ∧ kws.length ≤ sizeLine ∧ Paired (fun p q => p.1 = q.1 ∧ RD K J2 H2 p.2 q.2) acc kws ∧
      (match dcLoop src.good (dcTurn t pt pk pv ρ) (src.items.drop i) acc h2 with
        | .ok kvs h' => ∀ J' H' v, Ext J H J' H' → RH K J' (h' ++ [.dct kvs]) H' → RD K J' H' (.ref h'.length) v → Q v H'
        | _ => False)
    refine ⟨W, ⟨src.items.length, by simp, Nat.zero_le _, J1.hide D, h1, [], [], by rw [← e1.z], ?_, (Sub.hide nD).trans (Ext.laid nD).sub, rh1.hide nD, upd_same, Nat.zero_le _, Nat.zero_le _, .nil, ?_⟩, fun i m H2 hW => ?_⟩
    · exact ⟨rfl, e1.pre, fun a o n q => by rw [upd_ne (ne_of_none (e1.keep a o n q) nD)]; exact e1.keep a o n q⟩
    · rw [List.drop_zero]
      cases ed : dcLoop src.good (dcTurn t pt pk pv ρ) src.items [] h1 with
      | bad => rw [ed] at q; exact q
      | err _ _ => rw [ed] at q; exact q
      | ok kvs h' => rw [ed] at q; exact q
    · obtain ⟨rfl, hi', J2, h2, acc, kws, ez, e2, s2, rh2, hD, hv, hsz, rs, q⟩ := hW
      cases hd : src.items[i]? with
      | none =>
        have hlen : i = src.items.length := by have := List.getElem?_eq_none_iff.mp hd; omega
        subst hlen
        rw [List.drop_eq_nil_of_le (Nat.le_refl _)] at q
        unfold dcLoop at q
        split at q
        · rename_i kvs h' heq
          split at heq
          · rename_i hgood
            cases heq
            refine .inl ⟨itok.stop s2 rh2 hgood, ?_⟩
            obtain ⟨l2, z2⟩ := J2
            have ez : z2 = D :: J.z := ez
            subst ez
            have rh3 : RH K (Jn.own ⟨l2, J.z⟩ D) (h2 ++ [.dct acc]) H2 := rh2.own (J := ⟨l2, J.z⟩) (fun z => rh.notz nDH z) hD (.dct hsz rs)
            refine q _ H2 _ (Ext.own (J' := ⟨l2, J.z⟩) nDH e2) rh3 (.ref ?_)
            show (l2 ++ [D])[h2.length]? = some D
            have hl : l2.length = h2.length := rh2.len
            rw [← hl, List.getElem?_append_right (Nat.le_refl _)]; simp
          · cases heq
        · exact False.elim q
      | some d =>
        have hlt : i < src.items.length := (List.getElem?_eq_some_iff.mp hd).1
        rw [List.drop_eq_getElem_cons hlt] at q
        have hde : src.items[i] = d := by rw [List.getElem?_eq_getElem hlt] at hd; exact Option.some.inj hd
        rw [hde] at q
        unfold dcLoop at q
        cases hgood : src.good h2 with
        | false => rw [hgood] at q; exact False.elim q
        | true =>
          rw [hgood] at q
          simp only [if_true] at q
          obtain ⟨g1, g2⟩ := itok.go s2 rh2 hgood hd
          refine .inr ⟨g1, fun H' => ∃ m', m' < src.items.length - i ∧ W (i + 1) m' H', fun H' z => z, fun xv H3 y3 => ?_⟩
          obtain ⟨e3, rh3, rd3⟩ := g2 xv H3 y3
          have hD3 : H3 D = some (.dK kws) := e3.keep D _ (rh2.apart D (by rw [ez]; exact List.mem_cons_self)) hD
          cases ht2 : t.put d ρ with
          | none => simp only [dcTurn, ht2] at q
          | some ρ' =>
            simp only [dcTurn, ht2] at q
            have re3 : RE K J2 H3 ρ σ := (re.ext e1 |> Sub.re s2).ext e3
            have sub3 : Sub J1 H1 J2 H3 := s2.trans e3.sub
            have ext3 : Ext J H ⟨J2.l, J.z⟩ H3 := ⟨rfl, e2.pre, fun a o n q => e3.keep a o (e2.notin n q) (e2.keep a o n q)⟩
            refine ⟨_, ρ', h2, J2, d, re3.wipe _, rh3, rd3, by rw [put_wipe]; exact ht2, fun σ2 re4 hk hl => ⟨wipe_same hk hl, ?_⟩⟩
            have nx : ∀ (J5 : Jn) (h5 : Hh) (H5 : Hp), Ext J2 H3 J5 H5 → RH K J5 h5 H5 → (∀ u, Ext J H ⟨J5.l, J.z⟩ (upd H5 D u)) ∧ Sub J1 H1 J5 H5 := fun J5 h5 H5 e5 rh5 => by
              refine ⟨fun u => ⟨rfl, ?_, fun a o n q => ?_⟩, sub3.trans e5.sub⟩
              · obtain ⟨m1, hm1, f1⟩ := ext3.pre
                obtain ⟨m2, hm2, f2⟩ := e5.pre
                have hm1 : J2.l = J.l ++ m1 := hm1
                refine ⟨m1 ++ m2, by show J5.l = _; rw [hm2, hm1, List.append_assoc], fun a ha => ?_⟩
                rcases List.mem_append.mp ha with z | z
                · exact f1 a z
                · cases hp : H a with
                  | none => rfl
                  | some w =>
                    exfalso
                    by_cases n : a ∈ J.l
                    · obtain ⟨w', h2'⟩ := rh3.inl (a := a) (by rw [hm1]; exact List.mem_append_left _ n)
                      rw [f2 a z] at h2'; cases h2'
                    · have := ext3.keep a w n hp; rw [f2 a z] at this; cases this
              · have hne : a ≠ D := by rintro rfl; rw [nDH] at q; cases q
                rw [upd_ne hne]
                exact e5.keep a o (ext3.notin n q) (ext3.keep a o n q)
            refine ⟨ρ', h2, J2, re4, rh3, ?_⟩
            cases et : pt.t ρ' h2 with
            | bad => rw [et] at q; exact False.elim q
            | err _ _ => rw [et] at q; exact False.elim q
            | ok okb h3 =>
              rw [et, R.bind_ok] at q
              intro J4 H4 bb e4 rh4 hbb
              have hbb : okb = bb := hbb
              subst hbb
              have hD4 : H4 D = some (.dK kws) := e4.keep D _ (rh3.apart D (by rw [ez]; exact List.mem_cons_self)) hD3
              have pext : ∀ {J5 : Jn} {H5 : Hp}, Ext J2 H3 J5 H5 → Paired (fun p q => p.1 = q.1 ∧ RD K J5 H5 p.2 q.2) acc kws := fun {J5 H5} e5 => Paired.mapP rs fun p q x => ⟨x.1, (x.2.ext e3).ext e5⟩
              cases okb with
              | false =>
                simp only [Bool.false_eq_true, if_false] at q ⊢
                obtain ⟨n1, n2⟩ := nx J4 h3 H4 e4 rh4
                refine ⟨_, by omega, rfl, hlt, J4, h3, acc, kws, by rw [e4.z, ez], ?_, n2, rh4, hD4, by omega, hsz, pext e4, q⟩
                have := n1 (.dK kws)
                have hu : upd H4 D (.dK kws) = H4 := by funext a; unfold upd; split <;> simp_all
                rwa [hu] at this
              | true =>
                simp only [if_true] at q ⊢
                refine ⟨ρ', h3, J4, re4.ext e4, rh4, ?_⟩
                cases ek : pk.v ρ' h3 with
                | bad => rw [ek] at q; exact False.elim q
                | err _ _ => rw [ek] at q; exact False.elim q
                | ok y h4 =>
                  rw [ek] at q
                  simp only [R.bind_ok] at q
                  intro J5 H5 yv e5 rh5 ry
                  refine ⟨ρ', h4, J5, (re4.ext e4).ext e5, rh5, ?_⟩
                  cases ee : pv.v ρ' h4 with
                  | bad => rw [ee] at q; exact False.elim q
                  | err _ _ => rw [ee] at q; exact False.elim q
                  | ok z h5 =>
                    rw [ee] at q
                    simp only [R.bind_ok, dcEnd] at q
                    intro J6 H6 zv e6 rh6 rz
                    cases hk : y.key with
                    | none => simp only [hk] at q
                    | some k =>
                      simp only [hk] at q
                      have hz4 : D ∈ J4.z := by rw [e4.z, ez]; exact List.mem_cons_self
                      have hz5 : D ∈ J5.z := by rw [e5.z]; exact hz4
                      have hz6 : D ∈ J6.z := by rw [e6.z]; exact hz5
                      have hD5 : H5 D = some (.dK kws) := e5.keep D _ (rh4.apart D hz4) hD4
                      have hD6 : H6 D = some (.dK kws) := e6.keep D _ (rh5.apart D hz5) hD5
                      have e46 : Ext J2 H3 J6 H6 := (e4.trans rh3 rh4 e5).trans rh3 rh5 e6
                      obtain ⟨n1, n2⟩ := nx J6 h5 H6 e46 rh6
                      have hlen : kws.length < sizeLine := by have := size_of hsi; omega
                      refine ⟨kws, k, key_inv hk ry, hD6, hlen, _, by omega, rfl, hlt, J6, h5, putD acc k z, putK kws k zv, by rw [e6.z, e5.z, e4.z, ez], n1 _, n2.trans (Sub.writeZ hz6), rh6.writeZ hz6, upd_same, ?_, ?_, ?_, q⟩
                      · have := putK_le (kws := kws) (k := k) (v := zv); omega
                      · have := putK_le (kws := kws) (k := k) (v := zv); omega
                      · exact Paired.mapP (valP_put (pext e46) rz) fun p q x => ⟨x.1, x.2.sub (Sub.writeZ hz6)⟩
theorem se_dcl {kx vx iter : Expr} {ifs : List Expr} {scope : Scope} {own : List (Str × Nat)} {t : Tg} {f : Env → Hh → R Src} {pt pk pv : P} (hc : X.calm = true) (hN : X.N.Nodup) (hi : PI X tg iter (tI X.K f)) (ok : BlkOk X.N X.env.scope scope own) (hown : own.map (·.2) = t.slots)
    (hg : ∀ (s : Shared) (H : Hp) (C : Addr) (cl : List (Str × Addr)) (fp : List Addr), ST (X.blk s H scope (compEnvC scope cl C X.env) fp) tg t t.slots)
    (ht : ∀ (s : Shared) (H : Hp) (C : Addr) (cl : List (Str × Addr)) (fp : List Addr), PTs (X.blk s H scope (compEnvC scope cl C X.env) fp) ifs (tG X.K rB pt.t))
    (hk : ∀ (s : Shared) (H : Hp) (C : Addr) (cl : List (Str × Addr)) (fp : List Addr), PE (X.blk s H scope (compEnvC scope cl C X.env) fp) kx (tG X.K (rD X.K) pk.v))
    (he : ∀ (s : Shared) (H : Hp) (C : Addr) (cl : List (Str × Addr)) (fp : List Addr), PE (X.blk s H scope (compEnvC scope cl C X.env) fp) vx (tG X.K (rD X.K) pv.v)) (hs : ∀ x, foldedSetIterable iter X.env x = pure x) :
    SE X (.DictComp kx vx [⟨tg, iter, ifs, 0⟩] scope pos) (.plain fun ρ h => (f ρ h).bind fun s h1 => if sizeOk s.items.length then (dcLoop s.good (dcTurn t pt pk pv ρ) s.items [] h1).bind newDct else .bad) := by
  refine SE.plain ((pe_dc (g := gD X.K t t.slots) (tt := tG X.K rB pt.t) (tk := tG X.K (rD X.K) pk.v) (tv := tG X.K (rD X.K) pv.v) hc hN hi ok (fun s H C cl fp => (hg s H C cl fp).run) ht hk he hs).imp fun σ H Q q => ?_) (fun _ => rfl)
  rw [hown]
  exact dc_read q

/-! ### tuple(range(n)) -/
theorem rgV_eq {n : Int} : RDs K J H (rngD 0 n) (rgV 0 n) := by
  unfold rngD rgV
  generalize List.range (n - 0).toNat = l
  induction l with
  | nil => exact .nil
  | cons i l ih => exact .cons (.int _) ih
theorem se_trng {c : Cs} {F : Fns} {G : List D} {np ep cp : Pos} (o : Ok c F G X) (hm : ("tuple" : Str) ∈ c.bs) (hg : c.glb "tuple" = true) (hm2 : ("range" : Str) ∈ c.bs) (hg2 : c.glb "range" = true) (hp : plainX a = true) (ha : SE X a pa) :
    SE X (.Call (.Name "tuple" np) [.Call (.Name "range" ep) [a] [] cp] [] pos) (.plain fun ρ h => (pa.v ρ h).bind fun x h1 => R.opt (trngOp x) h1) := by
  refine SE.plain ((pe_tupRg o.calm (glb_ok o hg).1 (o.blt _ hm) (prg_1 (glb_ok o hg2).1 (o.blt _ hm2) ha.v (plain_star hp _ _)) rfl).imp fun σ H Q ⟨ρ, h, J, re, rh, q⟩ => ?_) (fun _ => rfl)
  refine (Post.step (R1 := rD X.K) (f := pa.v) re rh q).mono fun x H1 ⟨J1, h1, dx, e1, re1, rh1, rx, q1⟩ => ?_
  obtain ⟨d, hd, q2⟩ := Post.optX q1
  unfold trngOp at hd
  split at hd
  · rename_i n
    split at hd
    · rename_i hz
      cases hd
      refine ⟨n, rx.int_inv, RgOk.of_le (by omega) (by omega) (by omega) (by omega), fun p np => ?_⟩
      refine q2 _ _ _ (Ext.laid np) (rh1.laid np) (RD.newTup rh1 np rgV_eq ?_)
      rw [rgV_length, sizeLine_eq]; omega
    · cases hd
  · cases hd
end
end PV
end

section
set_option maxRecDepth 100000
/-! PvZ: isinstance(x, (tuple, list)); isinstance and the field of a caught exception. -/
namespace PV
open PySem PySem.Spec PyProof.Rows L2 PV
section
variable {X : Cx} {a : Expr} {pa : P} {pos np tp p1 p2 : Pos} {c : Cs} {F : Fns} {G : List D} {k : Nat}
def asIsi2 : Expr → Option (Str × Expr × Str × Str)
  | .Call (.Name f _) [y, .Tuple [.Name t1 _, .Name t2 _] _ _] [] _ => some (f, y, t1, t2)
  | _ => none
theorem asIsi2_eq {e y : Expr} {f t1 t2 : Str} (h : asIsi2 e = some (f, y, t1, t2)) : ∃ p q r k tp z, e = .Call (.Name f p) [y, .Tuple [.Name t1 q, .Name t2 r] k tp] [] z := by
  unfold asIsi2 at h
  split at h
  · cases h; exact ⟨_, _, _, _, _, _, rfl⟩
  · cases h
def asFld : Expr → Option (Expr × Str)
  | .Attribute e f _ => some (e, f)
  | _ => none
theorem asFld_eq {e y : Expr} {f : Str} (h : asFld e = some (y, f)) : ∃ p, e = .Attribute y f p := by
  unfold asFld at h
  split at h
  · cases h; exact ⟨_, rfl⟩
  · cases h
/-- what isinstance asks of an exception's class, by a look -/
def exCB (K : PySem.W.Frag) (C : Addr) : Bool := decide (PySem.W.findIn K (.ref C) "__class__" = some (some (.builtin "object.__class__"))) && (decide (PySem.W.specialIn K (.builtin "object.__class__") "__get__" = some (some (.builtin "getset_descriptor.__get__"))) &&
  (decide (PySem.W.takesIn K (.builtin "object.__class__") = some true) && (decide (PySem.W.mroIn K C (.type "object") = some true) && xfB K C)))
theorem exCB_ok {K : PySem.W.Frag} {C : Addr} (h : exCB K C = true) : ExcC K C := by
  (simp only [exCB, Bool.and_eq_true, decide_eq_true_eq] at h)
  obtain ⟨h1, h2, h3, h4, h5⟩ := h
  have x := xfB_ok h5
  exact ⟨x.ga, x.gg, x.exC, x.hdC, h1, h2, h3, h4⟩
theorem two_kit : ∀ n : String, n ∈ ["NoneType", "bool", "int", "str", "tuple", "list", "dict"] → kitB n "tuple" = some (decide (n = "tuple")) ∧ kitB n "list" = some (decide (n = "list")) := by
  intro n hn
  simp only [List.mem_cons, List.not_mem_nil, or_false] at hn
  rcases hn with rfl | rfl | rfl | rfl | rfl | rfl | rfl <;> decide +kernel
theorem two_ops : CallR X (.builtin "isinstance") (fun xs H Q => ∃ J h d v T, RH X.K J h H ∧ d.isF = false ∧ RD X.K J H d v ∧ xs = [v, .ref T] ∧ H T = some (.tup [.ty "tuple", .ty "list"]) ∧ Q (.bl (isi2Op h d)) H) := by
  intro pins s σ H xs us Q I r ⟨J, h, d, v, T, rh, hf, r1, ex, hT, q⟩
  have hn : d.tyn h ∈ ["NoneType", "bool", "int", "str", "tuple", "list", "dict"] := by
    cases d <;> simp only [D.tyn] <;> try decide
    split <;> decide
  obtain ⟨k1, k2⟩ := two_kit _ hn
  have e2 : (decide (d.tyn h = "tuple") || decide (d.tyn h = "list")) = isi2Op h d := by
    unfold isi2Op
    cases r1 with
    | ref q1 =>
      obtain ⟨o, w, h1, h2, h3⟩ := rh.at q1
      cases o <;> simp [opIsi, D.tyn, h1]
    | ft => cases hf
    | exc => cases hf
    | exf => cases hf
    | _ => simp [opIsi, D.tyn]
  have e : PySem.W.kitAny X.K (.type (d.tyn h)) [.type "tuple", .type "list"] = some (isi2Op h d) := by
    rw [← e2]
    refine kitAny_cons (kit_ty k1) (fun z => ?_) fun z => by rw [z]; rfl
    refine kitAny_cons (kit_ty k2) (fun z2 => ?_) fun z2 => by rw [z2, Bool.or_true]
    rw [z, z2]
    rfl
  exact call_isiT pins s σ H xs us Q I r ⟨v, T, _, _, _, _, ex, hT, .cons (.ty _) (.cons (.ty _) .nil), tyx_of rh hf r1, e, q⟩
theorem se_isi2 (o : Ok c F G X) (h1 : ("isinstance" : Str) ∈ c.bs ∧ c.glb "isinstance" = true) (h2 : ("tuple" : Str) ∈ c.bs ∧ c.glb "tuple" = true) (h3 : ("list" : Str) ∈ c.bs ∧ c.glb "list" = true) (hp : plainX a = true) (ha : SE X a pa) :
    SE X (.Call (.Name "isinstance" np) [a, .Tuple [.Name "tuple" p1, .Name "list" p2] k tp] [] pos) (.plain fun ρ h => (pa.v ρ h).bind fun x h1 => if x.isF then .bad else .ok (.bl (isi2Op h1 x)) h1) := by
  have ty : ∀ (t : Ty) (ht : t ≠ .non) (q : Pos), tyNm t ∈ c.bs ∧ c.glb (tyNm t) = true → PE X (.Name (tyNm t) q) (tC (.ty t.nm)) := fun t ht q g => pe_bltn (v := .ty t.nm) (glb_ok o g.2).1 (o.blt _ g.1) (tyNm_boot t ht) rfl (by cases t <;> decide) (glb_ok o g.2).2
  have two := pe_tup (x1 := k) (pos := tp) (pa_cons (ty .tup (fun z => nomatch z) p1 h2) (pa_cons (ty .lst (fun z => nomatch z) p2 h3) pa_nil))
  refine SE.plain ((pe_callB two_ops (glb_ok o h1.2).1 (o.blt _ h1.1) rfl (pa_cons ha.v (pa_cons two pa_nil) (plain_star hp _ _)) (by decide) (glb_ok o h1.2).2 (plain_star hp _ _) rfl).imp fun σ H Q ⟨ρ, h, J, re, rh, q⟩ => ?_) (fun _ => rfl)
  refine (Post.step (R1 := rD X.K) (f := pa.v) re rh q).mono fun x H1 ⟨J1, h1, dx, e1, re1, rh1, rx, q1⟩ => ?_
  split at q1
  · exact False.elim q1
  · rename_i hf
    refine ⟨by show 2 ≤ sizeLine; rw [sizeLine_eq]; omega, fun T nT => ?_⟩
    exact ⟨J1, h1, dx, x, T, rh1.laid nT, by simpa using hf, rx.ext (Ext.laid nT), rfl, upd_same, q1 J1 _ _ (Ext.laid nT) (rh1.laid nT) (.bl _)⟩
theorem se_isx {y : Str} {yes no : List Str} {q : Pos} (o : Ok c F G X) (h1 : ("isinstance" : Str) ∈ c.bs ∧ c.glb "isinstance" = true) (hg : c.glb y = true) (hx : y ∈ c.xs) (hp : plainX a = true) (hy : ∀ z ∈ yes, (z, y, true) ∈ c.xm.i) (hn : ∀ z ∈ no, (z, y, false) ∈ c.xm.i) (ha : SE X a pa) :
    SE X (.Call (.Name "isinstance" np) [a, .Name y q] [] pos) (.plain fun ρ h => (pa.v ρ h).bind fun x h1 => R.opt (isxOp yes no x) h1) := by
  obtain ⟨C, hm, _⟩ := o.exc _ hx
  have nm : PE X (.Name y q) (tC (.ref C)) := pe_glob (v := .ref C) (glb_ok o hg).1 hm rfl (glb_ok o hg).2
  refine SE.plain ((pe_callB call_isX (glb_ok o h1.2).1 (o.blt _ h1.1) rfl (pa_cons ha.v (pa_cons nm pa_nil) (plain_star hp _ _)) (by decide) (glb_ok o h1.2).2 (plain_star hp _ _) rfl).imp fun σ H Q ⟨ρ, h, J, re, rh, q⟩ => ?_) (fun _ => rfl)
  refine (Post.step (R1 := rD X.K) (f := pa.v) re rh q).mono fun x H1 ⟨J1, h1, dx, e1, re1, rh1, rx, q1⟩ => ?_
  obtain ⟨d, hd, q2⟩ := Post.opt rh1 q1
  cases dx with
  | exc z =>
    cases rx with
    | exc n m ea =>
      have go : ∀ b, (z, y, b) ∈ c.xm.i → d = .bl b → rIsX X.K [.ref _, .ref C] H1 Q := fun b mem ed => by
        subst ed
        obtain ⟨C2, m2, ec, ek⟩ := o.exm.i _ _ _ mem
        cases hm.symm.trans m2
        exact ⟨_, z, .ref C, .ref C, b, rfl, ea, fun u ru => ru, ec, ek, q2 _ (.bl b)⟩
      simp only [isxOp] at hd
      split at hd
      · rename_i hz
        exact go true (hy _ hz) (by cases hd; rfl)
      · split at hd
        · rename_i hz
          exact go false (hn _ hz) (by cases hd; rfl)
        · cases hd
  | _ => cases hd
theorem se_fld {f : Str} {ks : List Str} (o : XF X.K X.mg c.xm) (hb : baseX a = true) (hk : ∀ z ∈ ks, (z, f) ∈ c.xm.f) (ha : SE X a pa) : SE X (.Attribute a f pos) (.plain fun ρ h => (pa.v ρ h).bind fun x h1 => R.opt (fldOp f ks x) h1) := by
  refine SE.plain ((pe_fld ha.v (base_of hb)).imp fun σ H Q ⟨ρ, h, J, re, rh, q⟩ => ?_) (fun _ => rfl)
  refine (Post.step (R1 := rD X.K) (f := pa.v) re rh q).mono fun x H1 ⟨J1, h1, dx, e1, re1, rh1, rx, q1⟩ => ?_
  obtain ⟨d, hd, q2⟩ := Post.opt rh1 q1
  cases dx with
  | exf z g d2 =>
    simp only [fldOp] at hd
    split at hd
    · rename_i hz
      cases hd
      obtain ⟨rfl, mem⟩ := hz
      cases rx with
      | exf n m ea n2 m2 eb rd =>
        obtain ⟨T, own⟩ := o.f _ _ (hk _ mem)
        exact ⟨z, _, _, _, T, own, rfl, ea, eb, q2 _ rd⟩
    · cases hd
  | _ => cases hd
end
end PV
end

section
set_option maxRecDepth 100000
namespace PV
open L2 PySem PySem.Spec PyProof.Rows

/-! ### a text read as E -/
def relabelS (scope sc : Scope) : Scope :=
  { scope with names := scope.names.map fun (n, k) =>
      if (k == .free && sc.kind == .function && sc.names.lookup n == some .cell) then (n, .cell) else (n, k) }
def Cs.blk (c : Cs) (scope : Scope) : Cs := { c with sc := relabelS scope c.sc, fn := fun x => scope.names.lookup x == some .cell }
def Cs.own (c : Cs) (t : Tg) : List (Str × Nat) := t.slots.map fun i => (c.N.getD i "", i)
def Cs.blt (c : Cs) (x : Str) : Bool := decide (x ∈ c.bs) && c.glb x
/-- a name that is set -/
def mV (c : Cs) (i : Nat) (x : Expr) : Bool := match asName x with
  | some y => c.loc i y
  | none => false
def mVs (c : Cs) : List Nat → List Expr → Bool
  | [], [] => true
  | i :: is, x :: xs => mV c i x && mVs c is xs
  | _, _ => false
def mT (c : Cs) : Tg → Expr → Bool
  | .v i, x => mV c i x
  | .tu is, x => match asTup x with
    | some xs => mVs c is xs
    | none => false
def asDcl : Expr → Option (Expr × Expr × Expr × Expr × List Expr × Scope)
  | .DictComp kx vx [⟨tg, iter, ifs, a⟩] scope _ => if a = 0 then some (kx, vx, tg, iter, ifs, scope) else none
  | _ => none
theorem asDcl_eq {e kx vx tg iter : Expr} {ifs : List Expr} {scope : Scope} (h : asDcl e = some (kx, vx, tg, iter, ifs, scope)) : ∃ p, e = .DictComp kx vx [⟨tg, iter, ifs, 0⟩] scope p := by
  unfold asDcl at h
  split at h
  · split at h
    · rename_i ha; cases h; subst ha; exact ⟨_, rfl⟩
    · cases h
  · cases h
mutual
def mE (c : Cs) : E → Expr → Bool
  | .var i, x => match asName x with | some y => c.vis i y | none => false
  | .con d, x => match asCon x with | some k => conM d k | none => false
  | .glo i, x => match asName x with | some y => decide (c.gn[i]? = some y) && c.glb y | none => false
  | .miss, _ => false
  | .tup es, x => match asTup x with | some xs => mEs c es xs | none => false
  | .ftup es, x => match asTup x with | some xs => mEs c es xs | none => false
  | .lst es, x => match asLst x with | some xs => mEs c es xs | none => false
  | .new e, x => mF c e x
  | .dic0, x => asDic0 x
  | .bin o a b, x => match asBin x with | some (y, p, z) => bopM o p && mE c a y && mE c b z | none => false
  | .neg a, x => match asUn x with | some (.USub, y) => mE c a y | _ => false
  | .cmp o a b, x => match asCmp1 x with | some (y, p, z) => copM o p && plainX z && mE c a y && mE c b z | none => false
  | .chain o o' a b d, x => match asCmp2 x with | some (y, p, p', z, w) => copM o p && copM o' p' && plainX w && mE c a y && mE c b z && mE c d w | none => false
  | .and a r, x => match asBool x with | some (.And, y, ys) => mE c a y && mEs c r ys && !ys.isEmpty | _ => false
  | .or a r, x => match asBool x with | some (.Or, y, ys) => mE c a y && mEs c r ys && !ys.isEmpty | _ => false
  | .not a, x => match asUn x with | some (.Not, y) => mE c a y | _ => false
  | .ite t a b, x => match asIf x with | some (w, y, z) => mE c t w && mE c a y && mE c b z | none => false
  | .idx a i, x => match asSub x with | some (y, z) => plainX z && mE c a y && mE c i z | none => false
  | .slc a lo hi, x => match asSub x with
    | some (y, z) => match asSlc z with
      | some (l, u) => mE c a y && (match l with | none => lo.isMiss | some l => !lo.isMiss && mE c lo l) && (match u with | none => hi.isMiss | some u => !hi.isMiss && mE c hi u)
      | none => false
    | none => false
  | .call f es, x => match asCall x with
    | some (y, xs) => match c.T[f]? with
      | some fn => decide (fn.name = y) && decide (fn.P.length = xs.length) && c.glb y && plainXs xs && mEs c es xs
      | none => false
    | none => false
  | .callK f es kes pm, x => match asCallK x with
    | some (y, xs, kws) => match c.T[f]? with
      | some fn => decide (fn.name = y) && decide ((xs.length, kwNms kws, pm) ∈ fn.kw) && kwAll kws && decide ((kwNms kws).length = kws.length) && c.glb y && plainXs xs && mEs c es xs && mEs c kes (kws.map (·.value))
      | none => false
    | none => false
  | .bf f es, x => match asCall x with
    | some (y, xs) => decide (y = bfNm f) && c.blt y && !xs.isEmpty && plainXs xs && mEs c es xs && (bfOn f || match f with | .list => true | _ => false)
    | none => false
  | .isi a t, x => match asIsi x with
    | some (f, y, ty) => decide (f = "isinstance") && (match t with | .non => false | _ => true) && decide (ty = tyNm t) && c.blt f && c.blt ty && plainX y && mE c a y
    | none => false
  | .mth m o es, x => match asMth x with
    | some (y, nm, xs) => decide (nm = mtNm m) && (mtOn m || (mtIx m && !xs.isEmpty)) && baseX y && plainXs xs && decide (xs.length < 30) && mE c o y && mEs c es xs
    | none => false
  | .lc t it d e, x => match asLc x with
    | some (elt, tg, iter, ifs, scope) => blkC c.N c.sc scope (c.own t) && mI c it tg iter && plainX iter && mT (c.blk scope) t tg && mE (c.blk scope) e elt && (match ifs with
      | [] => d.isMiss
      | [i] => mE (c.blk scope) d i
      | _ => false)
    | none => false
  | .tenum a, x => match asTenum x with
    | some (f, g, y) => decide (f = "tuple") && decide (g = "enumerate") && c.blt f && c.blt g && plainX y && mE c a y
    | none => false
  | .sset a, x => match asTenum x with
    | some (f, g, y) => decide (f = "sorted") && decide (g = "set") && c.blt f && c.blt g && plainX y && mE c a y
    | none => false
  | .dcl t it d k v, x => match asDcl x with
    | some (kx, vx, tg, iter, ifs, scope) => blkC c.N c.sc scope (c.own t) && mI c it tg iter && plainX iter && mT (c.blk scope) t tg && mE (c.blk scope) k kx && mE (c.blk scope) v vx && (match ifs with
      | [] => d.isMiss
      | [i] => mE (c.blk scope) d i
      | _ => false)
    | none => false
  | .trng a, x => match asTenum x with
    | some (f, g, y) => decide (f = "tuple") && decide (g = "range") && c.blt f && c.blt g && plainX y && mE c a y
    | none => false
  | .isi2 a, x => match asIsi2 x with
    | some (f, y, t1, t2) => decide (f = "isinstance") && decide (t1 = "tuple") && decide (t2 = "list") && c.blt f && c.blt t1 && c.blt t2 && plainX y && mE c a y
    | none => false
  | .isx a k yes no, x => match asIsi x with
    | some (f, y, ty) => decide (f = "isinstance") && decide (ty = k) && c.blt f && c.glb k && decide (k ∈ c.xs) && plainX y && mE c a y && (yes.all fun z => decide ((z, k, true) ∈ c.xm.i)) && (no.all fun z => decide ((z, k, false) ∈ c.xm.i))
    | none => false
  | .fld a f ks, x => match asFld x with
    | some (y, g) => decide (g = f) && baseX y && mE c a y && (ks.all fun z => decide ((z, f) ∈ c.xm.f))
    | none => false
def mF (c : Cs) : E → Expr → Bool
  | .lst es, x => match asLst x with | some xs => mEs c es xs | none => false
  | .bf .list es, x => match asCall x with
    | some (y, xs) => decide (y = "list") && c.blt y && !xs.isEmpty && plainXs xs && mEs c es xs
    | none => false
  | .lc t it d e, x => match asLc x with
    | some (elt, tg, iter, ifs, scope) => blkC c.N c.sc scope (c.own t) && mI c it tg iter && plainX iter && mT (c.blk scope) t tg && mE (c.blk scope) e elt && (match ifs with
      | [] => d.isMiss
      | [i] => mE (c.blk scope) d i
      | _ => false)
    | none => false
  | .sset a, x => match asTenum x with
    | some (f, g, y) => decide (f = "sorted") && decide (g = "set") && c.blt f && c.blt g && plainX y && mE c a y
    | none => false
  | _, _ => false
def mEs (c : Cs) : Es → List Expr → Bool
  | .nil, [] => true
  | .cons e es, x :: xs => plainX x && mE c e x && mEs c es xs
  | _, _ => false
def mI (c : Cs) : I → Expr → Expr → Bool
  | .ev e, _, x => mE c e x
  | .rng n, _, x => match asCall x with
    | some (f, [y]) => decide (f = "range") && c.blt f && plainX y && mE c n y
    | _ => false
  | .rng2 a b, _, x => match asCall x with
    | some (f, [y, z]) => decide (f = "range") && c.blt f && plainX y && plainX z && mE c a y && mE c b z
    | _ => false
  | .zip a b, tg, x => match asCall x with
    | some (f, [y, z]) => decide (f = "zip") && c.blt f && plainX y && plainX z && mE c a y && mE c b z && (asTup tg).isSome
    | _ => false
  | .enum a, tg, x => match asCall x with
    | some (f, [y]) => decide (f = "enumerate") && c.blt f && plainX y && mE c a y && (asTup tg).isSome
    | _ => false
end
end PV
end

section
set_option maxRecDepth 100000
set_option maxHeartbeats 1900000
namespace PV
open L2 PySem PySem.Spec PyProof.Rows
section
variable {c : Cs} {F : Fns} {G : List D} {X : Cx}
theorem Ok.blk (o : Ok c F G X) {s : Shared} {H : Hp} {scope : Scope} {cl : List (Str × Addr)} {C : Addr} {fp : List Addr} : Ok (c.blk scope) F G (X.blk s H scope (compEnvC scope cl C X.env) fp) where
  hN := o.hN
  nd := o.nd
  sc := by
    show relabel scope X.env = relabelS scope c.sc
    unfold relabel relabelS PySem.Env.kindOf
    rw [o.sc]
  fn := rfl
  calm := o.calm
  call := ⟨o.call.ok⟩
  blt := o.blt
  glo := o.glo
  exc := o.exc
  exm := o.exm
theorem blt_ok {y : Str} (h : c.blt y = true) : y ∈ c.bs ∧ c.glb y = true := by
  simp only [Cs.blt, Bool.and_eq_true, decide_eq_true_eq] at h; exact h
theorem own_snd (t : Tg) : (c.own t).map (·.2) = t.slots := by simp [Cs.own, Function.comp_def]
theorem sv_ok {i : Nat} {x : Expr} (o : Ok c F G X) (h : mV c i x = true) : ∃ y p, x = .Name y p ∧ X.N[i]? = some y ∧ L2.Loc X.env.scope y ∧ (X.fn y = true ∨ X.env.scope.names.lookup y = some .local) := by
  unfold mV at h
  split at h
  · rename_i y hy
    obtain ⟨p, rfl⟩ := asName_eq hy
    obtain ⟨h1, h2, h3⟩ := loc_ok o h
    exact ⟨y, p, rfl, h1, h2, h3⟩
  · cases h
theorem svs_ok (o : Ok c F G X) : ∀ {is : List Nat} {xs : List Expr}, mVs c is xs = true → STs X xs is
  | [], [], _ => sts_nil
  | [], _ :: _, h => by cases h
  | _ :: _, [], h => by cases h
  | i :: is, x :: xs, h => by
    simp only [mVs, Bool.and_eq_true] at h
    obtain ⟨y, p, rfl, h1, h2, h3⟩ := sv_ok o h.1
    exact sts_cons o.nd h1 h2 h3 (svs_ok o h.2)
theorem st_ok (o : Ok c F G X) {t : Tg} {x : Expr} (h : mT c t x = true) : ST X x t t.slots := by
  cases t with
  | v i =>
    obtain ⟨y, p, rfl, h1, h2, h3⟩ := sv_ok o (show mV c i x = true from h)
    exact st_v o.nd h1 h2 h3
  | tu is =>
    simp only [mT] at h
    split at h
    · rename_i xs hx
      obtain ⟨k, p, rfl⟩ := asTup_eq hx
      exact st_tu o.calm (svs_ok o h)
    · cases h
def Es.len : Es → Nat
  | .nil => 0
  | .cons _ es => es.len + 1
theorem es_len : ∀ (es : Es) (ρ : Env) (h : Hh) (ds : List D) (h' : Hh), (evEs F G es).l ρ h = .ok ds h' → ds.length = es.len
  | .nil, ρ, h, ds, h', e => by cases e; rfl
  | .cons a es, ρ, h, ds, h', e => by
    have e : ((evE F G a).v ρ h).bind (fun x h1 => ((evEs F G es).l ρ h1).bind fun xs h2 => .ok (x :: xs) h2) = .ok ds h' := e
    cases e1 : (evE F G a).v ρ h with
    | ok x h1 =>
      rw [e1, R.bind_ok] at e
      cases e2 : (evEs F G es).l ρ h1 with
      | ok xs h2 =>
        rw [e2, R.bind_ok] at e
        cases e
        show xs.length + 1 = es.len + 1
        rw [es_len es _ _ _ _ e2]
      | bad => rw [e2] at e; cases e
      | err _ _ => rw [e2] at e; cases e
    | bad => rw [e1] at e; cases e
    | err _ _ => rw [e1] at e; cases e
theorem mEs_len : ∀ {es : Es} {xs : List Expr}, mEs c es xs = true → es.len = xs.length
  | .nil, [], _ => rfl
  | .nil, _ :: _, h => by cases h
  | .cons _ _, [], h => by cases h
  | .cons e es, x :: xs, h => by
    simp only [mEs, Bool.and_eq_true] at h
    show es.len + 1 = xs.length + 1
    rw [mEs_len h.2]
theorem mEs_nil {es : Es} {xs : List Expr} (h : mEs c es xs = true) : xs = [] → (evEs F G es).l = fun _ h => .ok [] h := by
  rintro rfl
  cases es with
  | nil => rfl
  | cons _ _ => cases h
/-- a list made anew -/
def SF (X : Cx) (x : Expr) (v : Env → Hh → R D) : Prop := PE X x (tF X.K v) ∧ ∀ whole, isTrue x X.env whole = (do let v ← whole; standAt x.pos; holding [v] (truthy v))
mutual
theorem sE : ∀ (t : E) {c : Cs} {X : Cx} (o : Ok c F G X) (x : Expr), mE c t x = true → SE X x (evE F G t)
  | .var i, c, X, o, x, h => by
    simp only [mE] at h
    split at h
    · rename_i y hy
      obtain ⟨p, rfl⟩ := asName_eq hy
      exact se_var o h
    · cases h
  | .con d, c, X, o, x, h => by
    simp only [mE] at h
    split at h
    · rename_i y hy
      obtain ⟨k, p, rfl⟩ := asCon_eq hy
      exact se_con h
    · cases h
  | .glo i, c, X, o, x, h => by
    simp only [mE] at h
    split at h
    · rename_i y hy
      obtain ⟨p, rfl⟩ := asName_eq hy
      (simp only [Bool.and_eq_true, decide_eq_true_eq] at h)
      exact se_glo o h.1 h.2
    · cases h
  | .miss, c, X, o, x, h => by cases h
  | .tup es, c, X, o, x, h => by
    simp only [mE] at h
    split at h
    · rename_i y hy
      obtain ⟨k, p, rfl⟩ := asTup_eq hy
      exact se_tup (sEs es o _ h)
    · cases h
  | .ftup es, c, X, o, x, h => by
    simp only [mE] at h
    split at h
    · rename_i y hy
      obtain ⟨k, p, rfl⟩ := asTup_eq hy
      exact se_ftup (sEs es o _ h)
    · cases h
  | .lst es, c, X, o, x, h => by
    simp only [mE] at h
    split at h
    · rename_i y hy
      obtain ⟨p, rfl⟩ := asLst_eq hy
      exact se_lst (sEs es o _ h)
    · cases h
  | .new e, c, X, o, x, h => se_new (sF e o x h).1 (sF e o x h).2
  | .dic0, c, X, o, x, h => by
    obtain ⟨p, rfl⟩ := asDic0_eq h
    exact se_dic0
  | .bin op a b, c, X, o, x, h => by
    simp only [mE] at h
    split at h
    · rename_i y p z hy
      obtain ⟨q, rfl⟩ := asBin_eq hy
      (simp only [Bool.and_eq_true] at h)
      exact se_bin' (bopM_ok h.1.1) (sE a o _ h.1.2) (sE b o _ h.2)
    · cases h
  | .neg a, c, X, o, x, h => by
    simp only [mE] at h
    split at h
    · rename_i y hy
      obtain ⟨q, rfl⟩ := asUn_eq hy
      exact se_neg (sE a o _ h)
    · cases h
  | .cmp op a b, c, X, o, x, h => by
    simp only [mE] at h
    split at h
    · rename_i y p z hy
      obtain ⟨q, rfl⟩ := asCmp1_eq hy
      (simp only [Bool.and_eq_true] at h)
      exact se_cmp' (copM_ok o.units h.1.1.1) h.1.1.2 (sE a o _ h.1.2) (sE b o _ h.2)
    · cases h
  | .chain op op' a b d, c, X, o, x, h => by
    simp only [mE] at h
    split at h
    · rename_i y p p' z w hy
      obtain ⟨q, rfl⟩ := asCmp2_eq hy
      (simp only [Bool.and_eq_true] at h)
      exact se_chain (copM_ok o.units h.1.1.1.1.1) (copM_ok o.units h.1.1.1.1.2) h.1.1.1.2 (sE a o _ h.1.1.2) (sE b o _ h.1.2) (sE d o _ h.2)
    · cases h
  | .and a r, c, X, o, x, h => by
    simp only [mE] at h
    split at h
    · rename_i y ys hy
      obtain ⟨q, rfl⟩ := asBool_eq hy
      (simp only [Bool.and_eq_true, Bool.not_eq_true'] at h)
      exact se_and (sE a o _ h.1.1) (sEs r o _ h.1.2) h.2
    · cases h
  | .or a r, c, X, o, x, h => by
    simp only [mE] at h
    split at h
    · rename_i y ys hy
      obtain ⟨q, rfl⟩ := asBool_eq hy
      (simp only [Bool.and_eq_true, Bool.not_eq_true'] at h)
      exact se_or (sE a o _ h.1.1) (sEs r o _ h.1.2) h.2
    · cases h
  | .not a, c, X, o, x, h => by
    simp only [mE] at h
    split at h
    · rename_i y hy
      obtain ⟨q, rfl⟩ := asUn_eq hy
      exact se_not (sE a o _ h)
    · cases h
  | .ite t a b, c, X, o, x, h => by
    simp only [mE] at h
    split at h
    · rename_i y p z hy
      obtain ⟨q, rfl⟩ := asIf_eq hy
      (simp only [Bool.and_eq_true] at h)
      exact se_ite (sE t o _ h.1.1) (sE a o _ h.1.2) (sE b o _ h.2)
    · cases h
  | .idx a i, c, X, o, x, h => by
    simp only [mE] at h
    split at h
    · rename_i y z hy
      obtain ⟨q, rfl⟩ := asSub_eq hy
      (simp only [Bool.and_eq_true] at h)
      exact se_idx o.units h.1.1 (sE a o _ h.1.2) (sE i o _ h.2)
    · cases h
  | .slc a lo hi, c, X, o, x, h => by
    simp only [mE] at h
    split at h
    · rename_i y z hy
      obtain ⟨q, rfl⟩ := asSub_eq hy
      split at h
      · rename_i l u hz
        obtain ⟨sp, rfl⟩ := asSlc_eq hz
        (simp only [Bool.and_eq_true] at h)
        obtain ⟨⟨h1, h2⟩, h3⟩ := h
        refine se_slc (sE a o _ h1) ?_ ?_
        · cases l with
          | none => have h2 : lo.isMiss = true := h2; rw [h2]; exact so_none
          | some l =>
            have h2 : (!lo.isMiss && mE c lo l) = true := h2
            simp only [Bool.and_eq_true, Bool.not_eq_true'] at h2
            rw [h2.1]; exact so_some (sE lo o _ h2.2)
        · cases u with
          | none => have h3 : hi.isMiss = true := h3; rw [h3]; exact so_none
          | some u =>
            have h3 : (!hi.isMiss && mE c hi u) = true := h3
            simp only [Bool.and_eq_true, Bool.not_eq_true'] at h3
            rw [h3.1]; exact so_some (sE hi o _ h3.2)
      · cases h
    · cases h
  | .call f es, c, X, o, x, h => by
    simp only [mE] at h
    split at h
    · rename_i y xs hy
      obtain ⟨p, q, rfl⟩ := asCall_eq hy
      split at h
      · rename_i fn hf
        (simp only [Bool.and_eq_true, decide_eq_true_eq] at h)
        obtain ⟨⟨⟨⟨h1, h2⟩, h3⟩, h4⟩, h5⟩ := h
        exact se_call o hf h1 h3 h4 (mEs_nil h5) (fun ρ h0 ds h' e => by rw [es_len es _ _ _ _ e, mEs_len h5, h2]) (sEs es o _ h5)
      · cases h
    · cases h
  | .callK f es kes pm, c, X, o, x, h => by
    simp only [mE] at h
    split at h
    · rename_i y xs kws hy
      obtain ⟨p, q, rfl⟩ := asCallK_eq hy
      split at h
      · rename_i fn hf
        (simp only [Bool.and_eq_true, decide_eq_true_eq] at h)
        (obtain ⟨⟨⟨⟨⟨⟨⟨h1, h2⟩, h3⟩, h4⟩, h5⟩, h6⟩, h7⟩, h8⟩ := h)
        exact se_callK o hf h1 h5 h6 h2 (mEs_nil h7) (fun ρ h0 ds h' e => by rw [es_len es _ _ _ _ e, mEs_len h7]) (fun ρ h0 ds h' e => by rw [es_len kes _ _ _ _ e, mEs_len h8, h4, List.length_map]) h3 (sEs es o _ h7) (sEs kes o _ h8)
      · cases h
    · cases h
  | .bf f es, c, X, o, x, h => by
    simp only [mE] at h
    split at h
    · rename_i y xs hy
      obtain ⟨p, q, rfl⟩ := asCall_eq hy
      simp only [Bool.and_eq_true, decide_eq_true_eq, Bool.not_eq_true'] at h
      obtain ⟨⟨⟨⟨⟨h1, h2⟩, h3⟩, h4⟩, h5⟩, h6⟩ := h
      subst h1
      obtain ⟨e, es', rfl⟩ := isEmpty_cons_false h3
      cases hb : bfOn f with
      | true => exact se_bf hb o (blt_ok h2).1 (blt_ok h2).2 h4 (sEs es o _ h5)
      | false =>
        rw [hb] at h6
        cases f with
        | list => exact se_list o (blt_ok h2).1 (blt_ok h2).2 h4 (sEs es o _ h5)
        | _ => cases h6
    · cases h
  | .isi a t, c, X, o, x, h => by
    simp only [mE] at h
    split at h
    · rename_i f y ty hy
      obtain ⟨p, q, r, rfl⟩ := asIsi_eq hy
      (simp only [Bool.and_eq_true, decide_eq_true_eq] at h)
      (obtain ⟨⟨⟨⟨⟨⟨h1, h2⟩, h3⟩, h4⟩, h5⟩, h6⟩, h7⟩ := h)
      subst h1
      exact se_isi (by rintro rfl; cases h2) h3 o (blt_ok h4).1 (blt_ok h4).2 (blt_ok h5).1 (blt_ok h5).2 h6 (sE a o _ h7)
    · cases h
  | .isi2 a, c, X, o, x, h => by
    simp only [mE] at h
    split at h
    · rename_i f y t1 t2 hy
      obtain ⟨p, q, r, k, tp, z, rfl⟩ := asIsi2_eq hy
      (simp only [Bool.and_eq_true, decide_eq_true_eq] at h)
      (obtain ⟨⟨⟨⟨⟨⟨⟨h1, h2⟩, h3⟩, h4⟩, h5⟩, h6⟩, h7⟩, h8⟩ := h)
      subst h1 h2 h3
      exact se_isi2 o (blt_ok h4) (blt_ok h5) (blt_ok h6) h7 (sE a o _ h8)
    · cases h
  | .isx a k yes no, c, X, o, x, h => by
    simp only [mE] at h
    split at h
    · rename_i f y ty hy
      obtain ⟨p, q, r, rfl⟩ := asIsi_eq hy
      (simp only [Bool.and_eq_true, decide_eq_true_eq, List.all_eq_true] at h)
      (obtain ⟨⟨⟨⟨⟨⟨⟨⟨h1, h2⟩, h3⟩, h4⟩, h5⟩, h6⟩, h7⟩, h8⟩, h9⟩ := h)
      subst h1 h2
      exact se_isx o (blt_ok h3) h4 h5 h6 h8 h9 (sE a o _ h7)
    · cases h
  | .fld a f ks, c, X, o, x, h => by
    simp only [mE] at h
    split at h
    · rename_i y g hy
      obtain ⟨p, rfl⟩ := asFld_eq hy
      (simp only [Bool.and_eq_true, decide_eq_true_eq, List.all_eq_true] at h)
      (obtain ⟨⟨⟨h1, h2⟩, h3⟩, h4⟩ := h)
      subst h1
      exact se_fld o.exm h2 h4 (sE a o _ h3)
    · cases h
  | .mth m a es, c, X, o, x, h => by
    simp only [mE] at h
    split at h
    · rename_i y nm xs hy
      obtain ⟨p, q, rfl, hl⟩ := asMth_eq hy
      (simp only [Bool.and_eq_true, decide_eq_true_eq] at h)
      (obtain ⟨⟨⟨⟨⟨⟨h1, h2⟩, h3⟩, h4⟩, h5⟩, h6⟩, h7⟩ := h)
      subst h1
      have s1 := sE a o _ h6
      have s2 := sEs es o _ h7
      rw [Bool.or_eq_true] at h2
      rcases h2 with h2 | h2
      · have z := se_mth h2 h3 hl h4 h5 (mEs_nil h7) s1 s2
        cases m <;> first | exact z | cases h2
      · rw [Bool.and_eq_true] at h2
        cases m <;> first | cases h2.1 | skip
        cases xs with
        | nil => cases h2.2
        | cons e0 xs => exact se_tidx h3 hl h4 h5 s1 s2
    · cases h
  | .lc t it d e, c, X, o, x, h => by
    simp only [mE] at h
    split at h
    · rename_i elt tg iter ifs scope hy
      obtain ⟨p, rfl⟩ := asLc_eq hy
      (simp only [Bool.and_eq_true] at h)
      obtain ⟨⟨⟨⟨⟨h1, h2⟩, h3⟩, h4⟩, h5⟩, h6⟩ := h
      refine SE.plain (tF_val (se_lcF (pt := evE F G d) (pe := evE F G e) (tt := fun _ _ _ => True) o.calm o.nd (sI it o _ _ h2) (blkOk_by (by rw [o.hN, o.sc]; exact h1)) (own_snd t) (fun s H C cl fp => st_ok o.blk h4) (fun s H C cl fp => ?_) (fun s H C cl fp => (sE e o.blk _ h5).v) (plain_fold h3 _)) fun ρ h d h' e => lc_lst _ _ _ _ e) (fun _ => rfl)
      split at h6
      · cases d with
        | miss => exact ⟨fun pins s σ H Q I ⟨ρ, h, J, re, rh, q⟩ => pts_nil.run pins s σ H Q I (q J H true Ext.refl rh rfl)⟩
        | _ => cases h6
      · exact pts_one (sE d o.blk _ h6).t
      · cases h6
    · cases h
  | .tenum a, c, X, o, x, h => by
    simp only [mE] at h
    split at h
    · rename_i f g y hy
      obtain ⟨p, q, r, s, rfl⟩ := asTenum_eq hy
      (simp only [Bool.and_eq_true, decide_eq_true_eq] at h)
      obtain ⟨⟨⟨⟨⟨h1, h2⟩, h3⟩, h4⟩, h5⟩, h6⟩ := h
      subst h1 h2
      exact se_tenum o (blt_ok h3).1 (blt_ok h3).2 (blt_ok h4).1 (blt_ok h4).2 h5 (sE a o _ h6)
    · cases h
  | .sset a, c, X, o, x, h => by
    simp only [mE] at h
    split at h
    · rename_i f g y hy
      obtain ⟨p, q, r, s, rfl⟩ := asTenum_eq hy
      (simp only [Bool.and_eq_true, decide_eq_true_eq] at h)
      obtain ⟨⟨⟨⟨⟨h1, h2⟩, h3⟩, h4⟩, h5⟩, h6⟩ := h
      subst h1 h2
      exact se_sset o (blt_ok h3).1 (blt_ok h3).2 (blt_ok h4).1 (blt_ok h4).2 h5 (sE a o _ h6)
    · cases h
  | .dcl t it d k v, c, X, o, x, h => by
    simp only [mE] at h
    split at h
    · rename_i kx vx tg iter ifs scope hy
      obtain ⟨p, rfl⟩ := asDcl_eq hy
      (simp only [Bool.and_eq_true] at h)
      (obtain ⟨⟨⟨⟨⟨⟨h1, h2⟩, h3⟩, h4⟩, h5⟩, h6⟩, h7⟩ := h)
      refine se_dcl (pt := evE F G d) (pk := evE F G k) (pv := evE F G v) o.calm o.nd (sI it o _ _ h2) (blkOk_by (by rw [o.hN, o.sc]; exact h1)) (own_snd t) (fun s H C cl fp => st_ok o.blk h4) (fun s H C cl fp => ?_) (fun s H C cl fp => (sE k o.blk _ h5).v) (fun s H C cl fp => (sE v o.blk _ h6).v) (plain_fold h3 _)
      split at h7
      · cases d with
        | miss => exact ⟨fun pins s σ H Q I ⟨ρ, h, J, re, rh, q⟩ => pts_nil.run pins s σ H Q I (q J H true Ext.refl rh rfl)⟩
        | _ => cases h7
      · exact pts_one (sE d o.blk _ h7).t
      · cases h7
    · cases h
  | .trng a, c, X, o, x, h => by
    simp only [mE] at h
    split at h
    · rename_i f g y hy
      obtain ⟨p, q, r, s, rfl⟩ := asTenum_eq hy
      (simp only [Bool.and_eq_true, decide_eq_true_eq] at h)
      obtain ⟨⟨⟨⟨⟨h1, h2⟩, h3⟩, h4⟩, h5⟩, h6⟩ := h
      subst h1 h2
      exact se_trng o (blt_ok h3).1 (blt_ok h3).2 (blt_ok h4).1 (blt_ok h4).2 h5 (sE a o _ h6)
    · cases h
theorem sF : ∀ (t : E) {c : Cs} {X : Cx} (o : Ok c F G X) (x : Expr), mF c t x = true → SF X x (evE F G t).v
  | .lst es, c, X, o, x, h => by
    simp only [mF] at h
    split at h
    · rename_i y hy
      obtain ⟨p, rfl⟩ := asLst_eq hy
      exact ⟨se_lstF (sEs es o _ h), fun _ => rfl⟩
    · cases h
  | .bf .list es, c, X, o, x, h => by
    simp only [mF] at h
    split at h
    · rename_i y xs hy
      obtain ⟨p, q, rfl⟩ := asCall_eq hy
      simp only [Bool.and_eq_true, decide_eq_true_eq, Bool.not_eq_true'] at h
      obtain ⟨⟨⟨⟨h1, h2⟩, h3⟩, h4⟩, h5⟩ := h
      subst h1
      obtain ⟨e, es', rfl⟩ := isEmpty_cons_false h3
      exact ⟨se_listF o (blt_ok h2).1 (blt_ok h2).2 h4 (sEs es o _ h5), fun _ => rfl⟩
    · cases h
  | .lc t it d e, c, X, o, x, h => by
    simp only [mF] at h
    split at h
    · rename_i elt tg iter ifs scope hy
      obtain ⟨p, rfl⟩ := asLc_eq hy
      (simp only [Bool.and_eq_true] at h)
      obtain ⟨⟨⟨⟨⟨h1, h2⟩, h3⟩, h4⟩, h5⟩, h6⟩ := h
      refine ⟨se_lcF (pt := evE F G d) (pe := evE F G e) (tt := fun _ _ _ => True) o.calm o.nd (sI it o _ _ h2) (blkOk_by (by rw [o.hN, o.sc]; exact h1)) (own_snd t) (fun s H C cl fp => st_ok o.blk h4) (fun s H C cl fp => ?_) (fun s H C cl fp => (sE e o.blk _ h5).v) (plain_fold h3 _), fun _ => rfl⟩
      split at h6
      · cases d with
        | miss => exact ⟨fun pins s σ H Q I ⟨ρ, h, J, re, rh, q⟩ => pts_nil.run pins s σ H Q I (q J H true Ext.refl rh rfl)⟩
        | _ => cases h6
      · exact pts_one (sE d o.blk _ h6).t
      · cases h6
    · cases h
  | .var _, _, _, _, _, h => by cases h
  | .con _, _, _, _, _, h => by cases h
  | .glo _, _, _, _, _, h => by cases h
  | .miss, _, _, _, _, h => by cases h
  | .tup _, _, _, _, _, h => by cases h
  | .ftup _, _, _, _, _, h => by cases h
  | .isi2 _, _, _, _, _, h => by cases h
  | .isx _ _ _ _, _, _, _, _, h => by cases h
  | .fld _ _ _, _, _, _, _, h => by cases h
  | .new _, _, _, _, _, h => by cases h
  | .dic0, _, _, _, _, h => by cases h
  | .bin _ _ _, _, _, _, _, h => by cases h
  | .neg _, _, _, _, _, h => by cases h
  | .cmp _ _ _, _, _, _, _, h => by cases h
  | .chain _ _ _ _ _, _, _, _, _, h => by cases h
  | .and _ _, _, _, _, _, h => by cases h
  | .or _ _, _, _, _, _, h => by cases h
  | .not _, _, _, _, _, h => by cases h
  | .ite _ _ _, _, _, _, _, h => by cases h
  | .idx _ _, _, _, _, _, h => by cases h
  | .slc _ _ _, _, _, _, _, h => by cases h
  | .call _ _, _, _, _, _, h => by cases h
  | .callK _ _ _ _, _, _, _, _, h => by cases h
  | .isi _ _, _, _, _, _, h => by cases h
  | .tenum _, _, _, _, _, h => by cases h
  | .sset a, c, X, o, x, h => by
    simp only [mF] at h
    split at h
    · rename_i f g y hy
      obtain ⟨p, q, r, s, rfl⟩ := asTenum_eq hy
      (simp only [Bool.and_eq_true, decide_eq_true_eq] at h)
      obtain ⟨⟨⟨⟨⟨h1, h2⟩, h3⟩, h4⟩, h5⟩, h6⟩ := h
      subst h1 h2
      exact ⟨se_ssetF o (blt_ok h3).1 (blt_ok h3).2 (blt_ok h4).1 (blt_ok h4).2 h5 (sE a o _ h6), fun _ => rfl⟩
    · cases h
  | .dcl _ _ _ _ _, _, _, _, _, h => by cases h
  | .trng _, _, _, _, _, h => by cases h
  | .mth _ _ _, _, _, _, _, h => by cases h
  | .bf .len _, _, _, _, _, h => by cases h
  | .bf .int _, _, _, _, _, h => by cases h
  | .bf .abs _, _, _, _, _, h => by cases h
  | .bf .tuple _, _, _, _, _, h => by cases h
  | .bf .max2 _, _, _, _, _, h => by cases h
  | .bf .min2 _, _, _, _, _, h => by cases h
  | .bf .sum _, _, _, _, _, h => by cases h
  | .bf .all _, _, _, _, _, h => by cases h
  | .bf .any _, _, _, _, _, h => by cases h
  | .bf .sorted _, _, _, _, _, h => by cases h
  | .bf .repr _, _, _, _, _, h => by cases h
theorem sEs : ∀ (t : Es) {c : Cs} {X : Cx} (o : Ok c F G X) (xs : List Expr), mEs c t xs = true → SEs X xs (evEs F G t)
  | .nil, c, X, o, [], h => ses_nil
  | .nil, c, X, o, _ :: _, h => by cases h
  | .cons _ _, c, X, o, [], h => by cases h
  | .cons e es, c, X, o, x :: xs, h => by
    simp only [mEs, Bool.and_eq_true] at h
    exact ses_cons h.1.1 (sE e o _ h.1.2) (sEs es o _ h.2)
theorem sI : ∀ (t : I) {c : Cs} {X : Cx} (o : Ok c F G X) (tg x : Expr), mI c t tg x = true → PI X tg x (tI X.K (evI F G t))
  | .ev e, c, X, o, tg, x, h => pi_any (sE e o x h).v
  | .rng n, c, X, o, tg, x, h => by
    simp only [mI] at h
    split at h
    · rename_i f y hy
      obtain ⟨p, q, rfl⟩ := asCall_eq hy
      (simp only [Bool.and_eq_true, decide_eq_true_eq] at h)
      (obtain ⟨⟨⟨h1, h2⟩, h3⟩, h4⟩ := h)
      subst h1
      exact pi_rng (glb_ok o (blt_ok h2).2).1 (o.blt _ (blt_ok h2).1) h3 (sE n o _ h4)
    · cases h
  | .rng2 a b, c, X, o, tg, x, h => by
    simp only [mI] at h
    split at h
    · rename_i f y z hy
      obtain ⟨p, q, rfl⟩ := asCall_eq hy
      (simp only [Bool.and_eq_true, decide_eq_true_eq] at h)
      obtain ⟨⟨⟨⟨⟨h1, h2⟩, h3⟩, h4⟩, h5⟩, h6⟩ := h
      subst h1
      exact pi_rng2 (glb_ok o (blt_ok h2).2).1 (o.blt _ (blt_ok h2).1) h3 h4 (sE a o _ h5) (sE b o _ h6)
    · cases h
  | .zip a b, c, X, o, tg, x, h => by
    simp only [mI] at h
    split at h
    · rename_i f y z hy
      obtain ⟨p, q, rfl⟩ := asCall_eq hy
      (simp only [Bool.and_eq_true, decide_eq_true_eq] at h)
      (obtain ⟨⟨⟨⟨⟨⟨h1, h2⟩, h3⟩, h4⟩, h5⟩, h6⟩, h7⟩ := h)
      subst h1
      cases ht : asTup tg with
      | none => rw [ht] at h7; cases h7
      | some es =>
        obtain ⟨k, tp, rfl⟩ := asTup_eq ht
        exact pi_zipS (glb_ok o (blt_ok h2).2).1 (o.blt _ (blt_ok h2).1) h3 h4 (sE a o _ h5) (sE b o _ h6)
    · cases h
  | .enum a, c, X, o, tg, x, h => by
    simp only [mI] at h
    split at h
    · rename_i f y hy
      obtain ⟨p, q, rfl⟩ := asCall_eq hy
      (simp only [Bool.and_eq_true, decide_eq_true_eq] at h)
      (obtain ⟨⟨⟨⟨h1, h2⟩, h3⟩, h4⟩, h5⟩ := h)
      subst h1
      cases ht : asTup tg with
      | none => rw [ht] at h5; cases h5
      | some es =>
        obtain ⟨k, tp, rfl⟩ := asTup_eq ht
        exact pi_enumS (glb_ok o (blt_ok h2).2).1 (o.blt _ (blt_ok h2).1) h3 (sE a o _ h4)
    · cases h
end
end
end PV
end

section
set_option maxRecDepth 100000
namespace PV
open L2 PySem PySem.Spec PyProof.Rows

/-! ### what is wanted behind a statement -/
structure KW where
  K : PySem.W.Frag
  mg : Str → Option Value
  /-- what is wished of an exception -/
  W : WX
abbrev kw (X : Cx) (W : WX) : KW := ⟨X.K, X.mg, W⟩
def PostS (κ : KW) (J : Jn) (H : Hp) (r : RS) (D : Ends) : Prop := match r with
  | .nxt ρ h => ∀ J' H' σ, Ext J H J' H' → RE κ.K J' H' ρ σ → RH κ.K J' h H' → D.nx σ H'
  | .brk ρ h => ∀ J' H' σ, Ext J H J' H' → RE κ.K J' H' ρ σ → RH κ.K J' h H' → D.bk σ H'
  | .cnt ρ h => ∀ J' H' σ, Ext J H J' H' → RE κ.K J' H' ρ σ → RH κ.K J' h H' → D.ct σ H'
  | .ret d h => ∀ J' H' v, Ext J H J' H' → RH κ.K J' h H' → RD κ.K J' H' d v → D.rt v H'
  | .err ρ x h => ∀ J' H' σ cls d, Ext J H J' H' → RE κ.K J' H' ρ σ → RH κ.K J' h H' → RX κ.K κ.mg J' H' x cls d → κ.W cls d σ H'
  | .bad => False
def tS (κ : KW) (f : Env → Hh → RS) : TS := fun D σ H => ∃ ρ h J, RE κ.K J H ρ σ ∧ RH κ.K J h H ∧ PostS κ J H (f ρ h) D
section
variable {κ : KW} {J J' : Jn} {H H' : Hp} {h h' : Hh} {ρ : Env} {σ : L2.St} {α β : Type} {D : Ends}
theorem PostS.ext {r : RS} (rh : RH κ.K J h H) (rh' : RH κ.K J' h' H') (e : Ext J H J' H') (p : PostS κ J H r D) : PostS κ J' H' r D := by
  cases r with
  | nxt ρ h2 => exact fun J2 H2 s e2 re2 rh2 => p J2 H2 s (e.trans rh rh' e2) re2 rh2
  | brk ρ h2 => exact fun J2 H2 s e2 re2 rh2 => p J2 H2 s (e.trans rh rh' e2) re2 rh2
  | cnt ρ h2 => exact fun J2 H2 s e2 re2 rh2 => p J2 H2 s (e.trans rh rh' e2) re2 rh2
  | ret d h2 => exact fun J2 H2 s e2 rh2 rd => p J2 H2 s (e.trans rh rh' e2) rh2 rd
  | bad => exact p
  | err ρ x h2 => exact fun J2 H2 s c d e2 re2 rh2 rx => p J2 H2 s c d (e.trans rh rh' e2) re2 rh2 rx
theorem PostS.step {R1 : RelA α β} {f : Env → Hh → R α} {g : α → Hh → RS} (re : RE κ.K J H ρ σ) (rh : RH κ.K J h H) (p : PostS κ J H ((f ρ h).then_ g) D) :
    tG κ.K R1 f σ H (fun b H1 => ∃ J1 h1 a, Ext J H J1 H1 ∧ RE κ.K J1 H1 ρ σ ∧ RH κ.K J1 h1 H1 ∧ R1 J1 H1 a b ∧ PostS κ J1 H1 (g a h1) D) := by
  refine ⟨ρ, h, J, re, rh, ?_⟩
  cases q : f ρ h with
  | ok a h1 =>
    rw [q] at p
    exact fun J1 H1 b e rh1 rl => ⟨J1, h1, a, e, re.ext e, rh1, rl, PostS.ext rh rh1 e p⟩
  | bad => rw [q] at p; exact p
  | err _ _ => rw [q] at p; exact p
theorem PostS.seq {r : RS} {g : Env → Hh → RS} (rh : RH κ.K J h H) (p : PostS κ J H (r.then_ g) D) : PostS κ J H r { D with nx := tS κ g D } := by
  cases r with
  | nxt ρ h2 => exact fun J2 H2 s e2 re2 rh2 => ⟨ρ, h2, J2, re2, rh2, PostS.ext rh rh2 e2 p⟩
  | brk ρ h2 => exact p
  | cnt ρ h2 => exact p
  | ret d h2 => exact p
  | bad => exact p
  | err _ _ _ => exact p
end
section
variable {K : PySem.W.Frag} {J J' : Jn} {H H' : Hp} {h h' : Hh} {ρ : Env} {σ : L2.St} {α β : Type} {D : Ends}

/-! ### objects let go -/
abbrev Jn.cut (J : Jn) (n : Nat) : Jn := ⟨J.l.take n, J.z⟩
mutual
theorem RD.cut {n : Nat} : ∀ {d : PV.D} {v : V}, d.rlt n = true → RD K J H d v → RD K (J.cut n) H d v
  | _, _, _, .non => .non
  | _, _, _, .bl b => .bl b
  | _, _, _, .int i => .int i
  | _, _, _, .str x => .str x
  | _, _, h, .tup a m q z r => .tup (fun hm => a (List.mem_of_mem_take hm)) m q z (RDs.cut h r)
  | _, _, h, .ktup k z r => .ktup k z (RDs.cut h r)
  | _, _, h, .lst a m q z r => .lst (fun hm => a (List.mem_of_mem_take hm)) m q z (RDs.cut h r)
  | _, _, h, .ref q => .ref (by
      have h : decide (_ < n) = true := h
      have := of_decide_eq_true h
      show (J.l.take n)[_]? = _
      rw [List.getElem?_take_of_lt this]; exact q)
  | _, _, h, .fz a m q z r => .fz (fun hm => a (List.mem_of_mem_take hm)) m q z (RDs.cut h r)
  | _, _, h, .kfz k z r => .kfz k z (RDs.cut h r)
  | _, _, h, .ft a m q c d z r => .ft (fun hm => a (List.mem_of_mem_take hm)) m q c d z (RDs.cut h r)
  | _, _, _, .exc a m q => .exc (fun hm => a (List.mem_of_mem_take hm)) m q
  | _, _, h, .exf a m q a2 m2 q2 r => .exf (fun hm => a (List.mem_of_mem_take hm)) m q (fun hm => a2 (List.mem_of_mem_take hm)) m2 q2 (RD.cut h r)
theorem RDs.cut {n : Nat} : ∀ {ds : List PV.D} {vs : List V}, PV.D.rlts n ds = true → RDs K J H ds vs → RDs K (J.cut n) H ds vs
  | _, _, _, .nil => .nil
  | _, _, h, .cons r t => by
    simp only [PV.D.rlts, Bool.and_eq_true] at h
    exact .cons (RD.cut h.1 r) (RDs.cut h.2 t)
end
theorem paired_all {γ δ : Type} {Q Q' : γ → δ → Prop} {f : γ → Bool} (hf : ∀ p q, f p = true → Q p q → Q' p q) : ∀ {xs : List γ} {ys : List δ}, xs.all f = true → Paired Q xs ys → Paired Q' xs ys
  | _, _, _, .nil => .nil
  | _, _, h, .cons x t => by
    (simp only [List.all_cons, Bool.and_eq_true] at h)
    exact .cons (hf _ _ h.1 x) (paired_all hf h.2 t)
theorem RO.cut {n : Nat} {o : O} {u : HO} (h : o.rlt n = true) (r : RO K J H o u) : RO K (J.cut n) H o u := by
  cases r with
  | lst z r => exact .lst z (r.cut h)
  | @dct kvs kws z r =>
    have h : (kvs.all fun p : Key × PV.D => p.2.rlt n) = true := h
    exact .dct z (paired_all (fun p q hp x => ⟨x.1, x.2.cut hp⟩) h r)
theorem RH.cut {n : Nat} (hn : n ≤ h.length) (hr : Hh.rlt (h.take n) n = true) (rh : RH K J h H) : RH K (J.cut n) (h.take n) H where
  nd := (List.take_sublist n J.l).nodup rh.nd
  len := by show (J.l.take n).length = _; rw [List.length_take, List.length_take, rh.len]
  obj := fun i o e => by
    have hi : i < n := by
      have := (List.getElem?_eq_some_iff.mp e).1
      simp at this; omega
    have e' : h[i]? = some o := by rw [List.getElem?_take_of_lt hi] at e; exact e
    obtain ⟨a, u, h1, h2, h3⟩ := rh.obj i o e'
    refine ⟨a, u, by show (J.l.take n)[i]? = _; rw [List.getElem?_take_of_lt hi]; exact h1, h2, h3.cut ?_⟩
    exact List.all_eq_true.mp hr o (List.mem_of_getElem? e)
  apart := fun a ha hm => rh.apart a ha (List.mem_of_mem_take hm)
  zed := rh.zed
theorem kill_get : ∀ {ks : List Nat} {ρ : Env} {i : Nat} {d : PV.D}, (kill ks ρ)[i]? = some (some d) → ρ[i]? = some (some d)
  | [], _, _, _, e => e
  | k :: ks, ρ, i, d, e => by
    have := kill_get (ks := ks) e
    by_cases hj : k = i
    · subst hj
      by_cases hl : k < ρ.length
      · rw [List.getElem?_set_self hl] at this; cases this
      · rw [List.getElem?_eq_none (by simpa using hl)] at this; cases this
    · rwa [List.getElem?_set_ne hj] at this
theorem kill_len : ∀ {ks : List Nat} {ρ : Env}, (kill ks ρ).length = ρ.length
  | [], _ => rfl
  | k :: ks, ρ => by show (kill ks _).length = _; rw [kill_len, List.length_set]
theorem RE.cut {n : Nat} {ks : List Nat} (hr : Env.rlt n (kill ks ρ) = true) (re : RE K J H ρ σ) : RE K (J.cut n) H (kill ks ρ) σ := by
  refine ⟨by rw [kill_len]; exact re.len, fun i d q => ?_⟩
  obtain ⟨v, h1, h2⟩ := re.get i d (kill_get q)
  exact ⟨v, h1, h2.cut (List.all_eq_true.mp hr (some d) (List.mem_of_getElem? q))⟩
theorem Ext.cut (rh : RH K J h H) (e : Ext J H J' H') : Ext J H (J'.cut h.length) H' := by
  obtain ⟨m, hm, _⟩ := e.pre
  refine ⟨e.z, ⟨[], ?_, by simp⟩, e.keep⟩
  show J'.l.take h.length = J.l ++ []
  rw [hm, ← rh.len, List.take_left, List.append_nil]
theorem PostS.gc {κ : KW} {r : RS} {ks : List Nat} (rh : RH κ.K J h H) (p : PostS κ J H (gcS ks h.length r) D) : PostS κ J H r D := by
  have hle : ∀ {J' : Jn} {H' : Hp} {h' : Hh}, Ext J H J' H' → RH κ.K J' h' H' → h.length ≤ h'.length := fun e rh' => by
    obtain ⟨m, hm, _⟩ := e.pre
    rw [← rh'.len, ← rh.len, hm, List.length_append]; omega
  cases r with
  | nxt ρ h2 =>
    simp only [gcS] at p
    split at p
    · rename_i hc
      (simp only [Bool.and_eq_true] at hc)
      exact fun J2 H2 s e2 re2 rh2 => p _ H2 s (e2.cut rh) (re2.cut hc.1) (rh2.cut (hle e2 rh2) hc.2)
    · exact p.elim
  | brk ρ h2 =>
    simp only [gcS] at p
    split at p
    · rename_i hc
      (simp only [Bool.and_eq_true] at hc)
      exact fun J2 H2 s e2 re2 rh2 => p _ H2 s (e2.cut rh) (re2.cut hc.1) (rh2.cut (hle e2 rh2) hc.2)
    · exact p.elim
  | cnt ρ h2 =>
    simp only [gcS] at p
    split at p
    · rename_i hc
      (simp only [Bool.and_eq_true] at hc)
      exact fun J2 H2 s e2 re2 rh2 => p _ H2 s (e2.cut rh) (re2.cut hc.1) (rh2.cut (hle e2 rh2) hc.2)
    · exact p.elim
  | ret d h2 => exact p
  | bad => exact p
  | err _ _ _ => exact p
end

/-! ### the statements -/
section
variable {X : Cx} {W : WX} {e x a b : Expr} {st : Stmt} {p pa pb pc : P} {pos pos' : Pos}
theorem ss_nil : PSs X [] (tS (kw X W) fun ρ h => .nxt ρ h) := pss_nil.imp fun D σ H ⟨ρ, h, J, re, rh, q⟩ => q J H σ Ext.refl re rh
theorem ss_cons {sts : List Stmt} {f g : Env → Hh → RS} (h1 : PS X st (tS (kw X W) f)) (h2 : PSs X sts (tS (kw X W) g)) : PSs X (st :: sts) (tS (kw X W) fun ρ h => (f ρ h).then_ g) :=
  (pss_cons h1 h2).imp fun D σ H ⟨ρ, h, J, re, rh, q⟩ => ⟨ρ, h, J, re, rh, q.seq rh⟩
def notComp : Expr → Bool
  | .ListComp .. => false
  | .SetComp .. => false
  | .DictComp .. => false
  | _ => true
theorem swaps_not {t : Option Expr} {l : Nat} {env : PySem.Env} (h : notComp e = true) : swapsWith e t l env = pure false := by cases e <;> first | rfl | cases h
/-- the value of an assignment to a name: no comprehension, or the name is a cell -/
def mayAsg (c : Bool) : Expr → Bool
  | .ListComp .. => c
  | .DictComp .. => c
  | e => notComp e
theorem swaps_may {y : Str} {py : Pos} {l : Nat} {env : PySem.Env} {e : Expr} {c : Bool} (hc : c = true → env.scope.names.lookup y = some .cell) (h : mayAsg c e = true) : swapsWith e (some (.Name y py)) l env = pure false := by
  cases e with
  | ListComp elt gs sc pos =>
    have k : env.kindOf y = some .cell := hc h
    unfold swapsWith
    simp only [k]
    have : (some NameKind.cell == some NameKind.local) = false := rfl
    rw [this]
    simp only [Bool.and_false, Bool.false_and] <;> rfl
  | DictComp kx vx gs sc pos =>
    have k : env.kindOf y = some .cell := hc h
    unfold swapsWith
    simp only [k]
    have : (some NameKind.cell == some NameKind.local) = false := rfl
    rw [this]
    simp only [Bool.and_false, Bool.false_and] <;> rfl
  | _ => first | rfl | cases h
theorem ss_asg {i : Nat} {y : Str} {c : Bool} (hN : X.N.Nodup) (hi : X.N[i]? = some y) (hx : L2.Loc X.env.scope y) (hf : X.fn y = true ∨ X.env.scope.names.lookup y = some .local) (hc : c = true → X.env.scope.names.lookup y = some .cell) (hn : mayAsg c e = true) (he : SE X e p) :
    PS X (.Assign [.Name y pos'] e pos) (tS (kw X W) fun ρ h => (p.v ρ h).then_ fun x h1 => .nxt (ρ.set i (some x)) h1) :=
  (ps_set hN hi hx he.v (swaps_may hc hn) hf).imp fun D σ H ⟨ρ, h, J, re, rh, q⟩ => (PostS.step (R1 := rD X.K) (f := p.v) re rh q).mono fun x H1 ⟨J1, h1, dx, e1, re1, rh1, rx, q1⟩ => q1 J1 H1 _ Ext.refl (re1.set i rx) rh1
theorem ss_exp (hn : notComp e = true) (he : SE X e p) : PS X (.Expr e pos) (tS (kw X W) fun ρ h => (p.v ρ h).then_ fun _ h1 => .nxt ρ h1) :=
  (ps_expr he.v (swaps_not hn)).imp fun D σ H ⟨ρ, h, J, re, rh, q⟩ => (PostS.step (R1 := rD X.K) (f := p.v) re rh q).mono fun x H1 ⟨J1, h1, dx, e1, re1, rh1, rx, q1⟩ => q1 J1 H1 _ Ext.refl re1 rh1
theorem ss_ret (he : SE X e p) : PS X (.Return (some e) pos) (tS (kw X W) fun ρ h => (p.v ρ h).then_ fun x h1 => .ret x h1) :=
  (ps_ret he.v).imp fun D σ H ⟨ρ, h, J, re, rh, q⟩ => (PostS.step (R1 := rD X.K) (f := p.v) re rh q).mono fun x H1 ⟨J1, h1, dx, e1, re1, rh1, rx, q1⟩ => q1 J1 H1 _ Ext.refl rh1 rx
theorem ss_retN : PS X (.Return none pos) (tS (kw X W) fun _ h => .ret .non h) := ps_retN.imp fun D σ H ⟨ρ, h, J, re, rh, q⟩ => q J H _ Ext.refl rh .non
theorem ss_pass : PS X (.Pass pos) (tS (kw X W) fun ρ h => .nxt ρ h) := ps_pass.imp fun D σ H ⟨ρ, h, J, re, rh, q⟩ => q J H σ Ext.refl re rh
theorem ss_brk : PS X (.Break pos) (tS (kw X W) fun ρ h => .brk ρ h) := ps_break.imp fun D σ H ⟨ρ, h, J, re, rh, q⟩ => q J H σ Ext.refl re rh
theorem ss_cnt : PS X (.Continue pos) (tS (kw X W) fun ρ h => .cnt ρ h) := ps_continue.imp fun D σ H ⟨ρ, h, J, re, rh, q⟩ => q J H σ Ext.refl re rh
theorem ss_if {as bs : List Stmt} {f g : Env → Hh → RS} (hc : SE X e p) (ha : PSs X as (tS (kw X W) f)) (hb : PSs X bs (tS (kw X W) g)) : PS X (.If e as bs pos) (tS (kw X W) fun ρ h => (p.t ρ h).then_ fun t h1 => if t then f ρ h1 else g ρ h1) :=
  (ps_if hc.t ha hb).imp fun D σ H ⟨ρ, h, J, re, rh, q⟩ => (PostS.step (R1 := rB) (f := p.t) re rh q).mono fun x H1 ⟨J1, h1, t, e1, re1, rh1, rx, q1⟩ => by
    have rx : t = x := rx
    subst rx
    cases t with
    | true => exact ⟨ρ, h1, J1, re1, rh1, q1⟩
    | false => exact ⟨ρ, h1, J1, re1, rh1, q1⟩
theorem ss_whl {body : List Stmt} {f : Env → Hh → RS} (hx : PassesOwn (model X.prog X.w) X.A X.env X.xe) (hc : SE X e p) (hb : PSs X body (tS (kw X W) f)) : PS X (.While e body [] pos) (tS (kw X W) fun ρ h => whlLoop p.t f wfuel ρ h) := by
  refine (ps_while hx hc.t hb).imp fun D σ H ⟨ρ, h, J, re, rh, q⟩ => ?_
  refine ⟨fun m σ H => ∃ ρ h J, RE X.K J H ρ σ ∧ RH X.K J h H ∧ PostS (kw X W) J H (whlLoop p.t f m ρ h) D, ⟨wfuel, ρ, h, J, re, rh, q⟩, ?_⟩
  clear q re rh
  rintro m σ H ⟨ρ, h, J, re, rh, q⟩
  cases m with
  | zero => exact False.elim q
  | succ m =>
    refine (PostS.step (R1 := rB) (f := p.t) re rh q).mono fun x H1 ⟨J1, h1, t, e1, re1, rh1, rx, q1⟩ => ?_
    have rx : t = x := rx
    subst rx
    cases t with
    | false => exact q1 J1 H1 _ Ext.refl re1 rh1
    | true =>
      simp only [if_true] at q1 ⊢
      refine ⟨fun σ' H' => ∃ ρ h J, RE X.K J H' ρ σ' ∧ RH X.K J h H' ∧ PostS (kw X W) J H' (whlLoop p.t f m ρ h) D, fun σ' H' z => ⟨m, Nat.lt_succ_self m, z⟩, ρ, h1, J1, re1, rh1, ?_⟩
      cases ef : f ρ h1 with
      | nxt ρ' h' => rw [ef] at q1; exact fun J2 H2 s e2 re2 rh2 => ⟨ρ', h', J2, re2, rh2, PostS.ext rh1 rh2 e2 q1⟩
      | cnt ρ' h' => rw [ef] at q1; exact fun J2 H2 s e2 re2 rh2 => ⟨ρ', h', J2, re2, rh2, PostS.ext rh1 rh2 e2 q1⟩
      | brk ρ' h' => rw [ef] at q1; exact q1
      | ret d h' => rw [ef] at q1; exact q1
      | bad => rw [ef] at q1; exact q1
      | err _ _ _ => rw [ef] at q1; exact q1
theorem ss_for {tg iter : Expr} {body : List Stmt} {t : Tg} {fi : Env → Hh → R Src} {f : Env → Hh → RS} (hx : PassesOwn (model X.prog X.w) X.A X.env X.xe) (hc : X.calm = true) (hi : PI X tg iter (tI X.K fi)) (hg : ST X tg t t.slots) (hb : PSs X body (tS (kw X W) f)) (hp : plainX iter = true) :
    PS X (.For tg iter body [] pos) (tS (kw X W) fun ρ h => (fi ρ h).then_ fun s h1 => forLoop s.good t f s.items ρ h1) := by
  refine (ps_for hx hc hi hg.run hb (plain_fold hp _)).imp fun D σ H ⟨ρ, h, J, re, rh, q⟩ => ?_
  refine ⟨ρ, h, J, re, rh, ?_⟩
  dsimp only at q
  cases ev : fi ρ h with
  | bad => rw [ev] at q; exact q
  | err _ _ => rw [ev] at q; exact q
  | ok src h1 =>
    rw [ev, R.then_ok] at q
    intro J1 H1 it e1 rh1 itok
    let Wf : Nat → Nat → L2.St → Hp → Prop := fun i m σ H2 => m = src.items.length - i ∧ i ≤ src.items.length ∧ ∃ ρ2 h2 J2, RE X.K J2 H2 ρ2 σ ∧ RH X.K J2 h2 H2 ∧ Sub J1 H1 J2 H2 ∧ PostS (kw X W) J2 H2 (forLoop src.good t f (src.items.drop i) ρ2 h2) D
    refine ⟨Wf, ⟨src.items.length, by simp, Nat.zero_le _, ρ, h1, J1, re.ext e1, rh1, Sub.refl, PostS.ext rh rh1 e1 q⟩, fun i m σ H2 hW => ?_⟩
    clear q
    obtain ⟨rfl, hi', ρ2, h2, J2, re2, rh2, s2, q⟩ := hW
    cases hd : src.items[i]? with
    | none =>
      have hlen : i = src.items.length := by have := List.getElem?_eq_none_iff.mp hd; omega
      subst hlen
      rw [List.drop_eq_nil_of_le (Nat.le_refl _)] at q
      unfold forLoop at q
      split at q
      · rename_i hgood
        exact .inl ⟨itok.stop s2 rh2 hgood, q J2 H2 σ Ext.refl re2 rh2⟩
      · exact False.elim q
    | some d =>
      have hlt : i < src.items.length := (List.getElem?_eq_some_iff.mp hd).1
      rw [List.drop_eq_getElem_cons hlt] at q
      have hde : src.items[i] = d := by rw [List.getElem?_eq_getElem hlt] at hd; exact Option.some.inj hd
      rw [hde] at q
      unfold forLoop at q
      cases hgood : src.good h2 with
      | false => rw [hgood] at q; exact False.elim q
      | true =>
        rw [hgood] at q
        simp only [if_true] at q
        obtain ⟨g1, g2⟩ := itok.go s2 rh2 hgood hd
        refine .inr ⟨g1, fun σ' H' => ∃ m', m' < src.items.length - i ∧ Wf (i + 1) m' σ' H', fun σ' H' z => z, fun xv H3 y3 => ?_⟩
        obtain ⟨e3, rh3, rd3⟩ := g2 xv H3 y3
        cases ht2 : t.put d ρ2 with
        | none => simp only [ht2] at q; exact False.elim q
        | some ρ' =>
          simp only [ht2] at q
          have q := PostS.ext rh2 rh3 e3 q
          refine ⟨ρ2, ρ', h2, J2, d, re2.ext e3, rh3, rd3, ht2, fun σ2 re4 hk hl => ⟨ρ', h2, J2, re4, rh3, ?_⟩⟩
          have again : ∀ {ρ5 : Env} {h5 : Hh}, PostS (kw X W) J2 H3 (forLoop src.good t f (src.items.drop (i + 1)) ρ5 h5) D → ∀ J5 H5 σ5, Ext J2 H3 J5 H5 → RE X.K J5 H5 ρ5 σ5 → RH X.K J5 h5 H5 → ∃ m', m' < src.items.length - i ∧ Wf (i + 1) m' σ5 H5 :=
            fun {ρ5 h5} q5 J5 H5 σ5 e5 re5 rh5 => ⟨_, by omega, rfl, hlt, ρ5, h5, J5, re5, rh5, (s2.trans e3.sub).trans e5.sub, PostS.ext rh3 rh5 e5 q5⟩
          cases ef : f ρ' h2 with
          | nxt ρ5 h5 => rw [ef] at q; exact again q
          | cnt ρ5 h5 => rw [ef] at q; exact again q
          | brk ρ5 h5 => rw [ef] at q; exact q
          | ret d h' => rw [ef] at q; exact q
          | bad => rw [ef] at q; exact q
          | err _ _ _ => rw [ef] at q; exact q
/-! ### calls whose exception goes on -/
theorem callX_do {F : Fns} {f n : Nat} {pl : PL} {g : D → Env → Hh → RS} {D : Ends} {σ : L2.St} {H : Hp} (hlen : ∀ ρ h ds h', pl.l ρ h = .ok ds h' → ds.length = n) (ρ : Env) (h : Hh) (J : Jn) (re : RE X.K J H ρ σ) (rh : RH X.K J h H) (q : PostS (kw X W) J H ((pl.l ρ h).then_ fun xs h1 => (F f xs h1).thenX ρ fun x h2 => g x ρ h2) D) :
    tCX X W F f n pl.l σ H (fun v H1 => ∃ d h1 J1, RE X.K J1 H1 ρ σ ∧ RH X.K J1 h1 H1 ∧ RD X.K J1 H1 d v ∧ PostS (kw X W) J1 H1 (g d ρ h1) D) := by
  refine ⟨ρ, h, J, re, rh, ?_⟩
  cases ev : pl.l ρ h with
  | bad => rw [ev] at q; exact q
  | err _ _ => rw [ev] at q; exact q
  | ok ds h1 =>
    rw [ev, R.then_ok] at q
    intro J1 H1 vs e1 rh1 rs
    have q1 := PostS.ext rh rh1 e1 q
    refine ⟨J1, h1, ds, rh1, rs, hlen _ _ _ _ ev, ?_⟩
    have re1 := re.ext e1
    cases ef : F f ds h1 with
    | bad => rw [ef] at q1; exact q1
    | err x h2 => rw [ef] at q1; exact fun J2 H2 c d e2 rh2 rx => q1 J2 H2 σ c d e2 (re1.ext e2) rh2 rx
    | ok d h2 => rw [ef] at q1; exact fun J2 H2 b e2 rh2 rd => ⟨d, h2, J2, re1.ext e2, rh2, rd, PostS.ext rh1 rh2 e2 q1⟩
end
end PV
end

section
set_option maxRecDepth 100000
namespace PV
open L2 PySem PySem.Spec PyProof.Rows
section
variable {X : Cx} {W : WX} {e x a b : Expr} {st : Stmt} {p pa pb pc : P} {pos pos' : Pos}

/-! ### several names at once -/
theorem ss_unp {es : List Expr} {is : List Nat} {k : Nat} {tp : Pos} (hc : X.calm = true) (hs : STs X es is) (hn : notComp e = true) (ht : swappedStores [.Tuple es k tp] e X.env = pure none) (he : SE X e p) :
    PS X (.Assign [.Tuple es k tp] e pos) (tS (kw X W) fun ρ h => (p.v ρ h).then_ fun x h1 => RS.opt ((Tg.tu is).put x ρ) h1) := by
  refine (ps_asg he.v (st_tu hc hs).run ?_ ?_).imp fun D σ H ⟨ρ, h, J, re, rh, q⟩ => ?_
  · unfold swapsWithSole
    exact swaps_not hn
  · exact ht
  refine (PostS.step (R1 := rD X.K) (f := p.v) re rh q).mono fun x H1 ⟨J1, h1, dx, e1, re1, rh1, rx, q1⟩ => ?_
  cases hp : (Tg.tu is).put dx ρ with
  | none => rw [hp] at q1; exact False.elim q1
  | some ρ' => rw [hp] at q1; exact ⟨ρ, ρ', h1, J1, dx, re1, rh1, rx, hp, fun σ' re' _ _ => q1 J1 H1 σ' Ext.refl re' rh1⟩
theorem swapped_no {es : List Expr} {k : Nat} {tp : Pos} {env : PySem.Env} (ht : asTup e = none) : swappedStores [.Tuple es k tp] e env = pure none := by
  cases e <;> first | rfl | cases ht
theorem filter_lt {α β : Type} {f : α → Option β} : ∀ {l : List α}, (∃ x ∈ l, f x = none) → (l.filterMap f).length ≠ l.length
  | [], h => by obtain ⟨x, hx, _⟩ := h; cases hx
  | y :: l, h => by
    obtain ⟨x, hx, e⟩ := h
    have le := List.length_filterMap_le f l
    cases q : f y with
    | none => rw [List.filterMap_cons_none q, List.length_cons]; omega
    | some z =>
      rw [List.filterMap_cons_some q, List.length_cons, List.length_cons]
      (rcases List.mem_cons.mp hx with rfl | hx)
      · rw [q] at e; cases e
      · have := filter_lt (l := l) ⟨x, hx, e⟩
        omega
/-- .. a captured one among them: they are not -/
theorem swapped_cel {es : List Expr} {tp : Pos} {k : Nat} {env : PySem.Env} (h : ∃ y ∈ es, ∃ x p, y = .Name x p ∧ env.scope.names.lookup x = some .cell) : swappedStores [.Tuple es k tp] e env = pure none := by
  have one : ∀ line : Nat, ((es.filterMap fun
    | .Name id p0 => if env.kindOf id == some .local && p0.line == line then some id else none
    | _ => none).length ≠ es.length) := by
    intro line
    refine filter_lt ?_
    obtain ⟨y, hy, x, p, rfl, hl⟩ := h
    have kx : env.kindOf x = some .cell := hl
    exact ⟨_, hy, by simp [kx]⟩
  unfold swappedStores
  cases e <;> try rfl
  dsimp only
  split
  · rfl
  · split
    · rfl
    · rw [if_pos]
      rw [Bool.or_eq_true]
      exact .inl (bne_iff_ne.mpr (one _))
/-- two names from two values: the stores are swapped -/
theorem swapped_two {x y : Str} {px py tp vp : Pos} {k k2 : Nat} {env : PySem.Env} (hk : env.scope.kind = .function) (hx : env.scope.names.lookup x = some .local) (hy : env.scope.names.lookup y = some .local) (hne : x ≠ y) (hl : (py.line == px.line) = true)
    (ha : plainX a = true) (hb : plainX b = true) (hf : (foldedForSure 8 a && foldedForSure 8 b) = false) (hcn : (constantsAlone 8 a && constantsAlone 8 b) = false) :
    swappedStores [.Tuple [.Name x px, .Name y py] k tp] (.Tuple [a, b] k2 vp) env = pure (some [x, y]) := by
  have kx : env.kindOf x = some .local := hx
  (have ky : env.kindOf y = some .local := hy)
  have hbk : env.blockKind = .function := by unfold PySem.Env.blockKind; rw [hk]; rfl
  have h1 : ([a, b].any fun | .Starred .. => true | _ => false) = false := by
    cases a <;> first | (exfalso; cases ha; done) | (cases b <;> first | (exfalso; cases hb; done) | rfl)
  have h2 : [a, b].all (foldedForSure 8) = false := by simpa using hf
  have h3 : [a, b].all (constantsAlone 8) = false := by simpa using hcn
  have hl' : py.line = px.line := by simpa using hl
  have h5 : ([x, y] : List Str).eraseDups.length = 2 := by
    have h6 : (y == x) = false := by simpa using (Ne.symm hne)
    simp [List.eraseDups_cons, h6]
  unfold swappedStores
  simp only [hbk, h1, h2, h3, List.filterMap_cons, List.filterMap_nil, kx, ky, List.head?_cons, Option.map_some, Option.getD_some, Expr.pos, hl', beq_self_eq_true, Bool.and_self, if_true, h5]
  rw [if_neg (by simp), if_neg (fun hh => absurd (hh.symm.trans h1) (by decide)), if_neg (by simp), if_neg (by decide), if_neg (by decide)]
theorem ss_par {i j : Nat} {x y : Str} {px py tp vp : Pos} {k k2 : Nat} (hc : X.calm = true) (hN : X.N.Nodup) (hi : X.N[i]? = some x) (hj : X.N[j]? = some y) (hij : i ≠ j) (hk : X.env.scope.kind = .function)
    (hx : X.env.scope.names.lookup x = some .local) (hy : X.env.scope.names.lookup y = some .local) (hne : x ≠ y) (hl : (py.line == px.line) = true) (hpa : plainX a = true) (hpb : plainX b = true) (hf : (foldedForSure 8 a && foldedForSure 8 b) = false) (hcn : (constantsAlone 8 a && constantsAlone 8 b) = false)
    (ha : SE X a pa) (hb : SE X b pb) :
    PS X (.Assign [.Tuple [.Name x px, .Name y py] k tp] (.Tuple [a, b] k2 vp) pos) (tS (kw X W) fun ρ h => (pa.v ρ h).then_ fun x h1 => (pb.v ρ h1).then_ fun y h2 => .nxt ((ρ.set i (some x)).set j (some y)) h2) := by
  refine (ps_par hc hN hi hj hij hx hy (pa_cons ha.v (pa_cons hb.v pa_nil (plain_star hpb _ _)) (plain_star hpa _ _)) (swapped_two hk hx hy hne hl hpa hpb hf hcn)).imp fun D σ H ⟨ρ, h, J, re, rh, q⟩ => ?_
  refine (PostS.step (R1 := rD X.K) (f := pa.v) re rh q).mono fun x H1 ⟨J1, h1, dx, e1, re1, rh1, rx, q1⟩ => ?_
  refine (PostS.step (R1 := rD X.K) (f := pb.v) re1 rh1 q1).mono fun y H2 ⟨J2, h2, dy, e2, re2, rh2, ry, q2⟩ => ?_
  exact ⟨x, y, rfl, q2 J2 H2 _ Ext.refl ((re2.set i (rx.ext e2)).set j ry) rh2⟩

/-! ### stores -/
theorem putD_rel {K : PySem.W.Frag} {J : Jn} {H : Hp} {kvs : List (Key × D)} {kws : List (Key × V)} {k : Key} {d : D} {v : V} (r : Paired (fun p q => p.1 = q.1 ∧ RD K J H p.2 q.2) kvs kws) (rv : RD K J H d v) :
    Paired (fun p q => p.1 = q.1 ∧ RD K J H p.2 q.2) (putD kvs k d) (putK kws k v) := by
  have ha : ∀ {kvs : List (Key × D)} {kws : List (Key × V)}, Paired (fun p q => p.1 = q.1 ∧ RD K J H p.2 q.2) kvs kws → (kvs.any fun kv => decide (kv.1 = k)) = kws.any fun kv => decide (kv.1 = k) := by
    intro kvs kws r
    induction r with
    | nil => rfl
    | cons x t ih => simp only [List.any_cons, ih, x.1]
  have hm : ∀ {kvs : List (Key × D)} {kws : List (Key × V)}, Paired (fun p q => p.1 = q.1 ∧ RD K J H p.2 q.2) kvs kws → Paired (fun p q => p.1 = q.1 ∧ RD K J H p.2 q.2) (kvs.map fun kv => if kv.1 = k then (kv.1, d) else kv) (kws.map fun kv => if kv.1 = k then (kv.1, v) else kv) := by
    intro kvs kws r
    induction r with
    | nil => exact .nil
    | @cons p q ps qs x t ih =>
      refine .cons ?_ ih
      dsimp only
      by_cases hk : p.1 = k
      · rw [if_pos hk, if_pos (x.1 ▸ hk)]; exact ⟨x.1, rv⟩
      · rw [if_neg hk, if_neg (x.1 ▸ hk)]; exact x
  have hap : ∀ {kvs : List (Key × D)} {kws : List (Key × V)}, Paired (fun p q => p.1 = q.1 ∧ RD K J H p.2 q.2) kvs kws → Paired (fun p q => p.1 = q.1 ∧ RD K J H p.2 q.2) (kvs ++ [(k, d)]) (kws ++ [(k, v)]) := by
    intro kvs kws r
    induction r with
    | nil => exact .cons ⟨rfl, rv⟩ .nil
    | cons x t ih => exact .cons x ih
  unfold putD putK
  rw [ha r]
  split
  · exact hm r
  · exact hap r
theorem putK_len {kws : List (Key × V)} {k : Key} {v : V} : (putK kws k v).length ≤ kws.length + 1 := by
  unfold putK
  split
  · rw [List.length_map]; omega
  · rw [List.length_append]; exact Nat.le_refl _
def rSto (K : PySem.W.Frag) : TSet := fun o i v H Q => ∃ J h do_ di dv h', RH K J h H ∧ RD K J H do_ o ∧ RD K J H di i ∧ RD K J H dv v ∧ stoOp do_ di dv h = some h' ∧ ∀ J' H', Ext J H J' H' → RH K J' h' H' → Q H'
theorem ps_stoR (hu : X.A.units + 1 < cLine) : PSet X (rSto X.K) := by
  intro pins s σ H o i v ov iv u Q I ro ri rv ⟨J, h, do_, di, dv, h', rh, r1, r2, r3, e, q⟩
  cases r1 with
  | @ref n a q1 =>
    obtain ⟨ob, w, h1, h2, h3⟩ := rh.at q1
    simp only [stoOp, h1] at e
    cases h3 with
    | @lst ds vs z rr =>
      cases r2 with
      | int k =>
        dsimp only at e
        split at e
        · rename_i j hj
          cases e
          rw [rr.length] at hj
          have r4 : RDs X.K J H (ds.set j dv) (vs.set j v) := rr.set j r3
          exact set_list pins s σ H _ _ v ov iv u Q I ro ri rv ⟨a, vs, k, j, rfl, rfl, h2, hj, q J _ (Ext.write q1) (rh.writeL q1 (by simpa using z) r4)⟩
        · cases e
      | _ => cases e
    | @dct kvs kws z rr =>
      dsimp only at e
      split at e
      · rename_i k hk
        split at e
        · rename_i hz
          cases e
          have hz' : kws.length + 1 ≤ sizeLine := by rw [← Paired.length rr]; exact size_of hz
          have hi := key_inv hk r2
          subst hi
          exact set_dict hu pins s σ H _ _ v ov iv u Q I ro ri rv ⟨a, _, rfl, .k h2 hz', q J _ (Ext.write q1) (rh.write q1 (.dct (Nat.le_trans putK_len hz') (Paired.mapP (putD_rel rr r3) fun p q x => ⟨x.1, x.2.ext (Ext.write q1)⟩)))⟩
        · cases e
      · cases e
  | _ => cases e
theorem ss_sto {o i : Expr} {po pi : P} {sp : Pos} (hu : X.A.units + 200 < cLine) (hn : plainX i = true) (ho : SE X o po) (hi : SE X i pi) (he : SE X e p) :
    PS X (.Assign [.Subscript o i sp] e pos) (tS (kw X W) fun ρ h => (p.v ρ h).then_ fun x h1 => (po.v ρ h1).then_ fun y h2 => (pi.v ρ h2).then_ fun z h3 => match stoOp y z x h3 with
    | some h4 => .nxt ρ h4
    | none => .bad) := by
  refine (ps_asg he.v (pg_sub ho.v hi.v (ps_stoR (by omega)) ?_) ?_).imp fun D σ H ⟨ρ, h, J, re, rh, q⟩ => ?_
  · intro v; cases i <;> first | rfl | cases hn
  · cases e <;> rfl
  refine (PostS.step (R1 := rD X.K) (f := p.v) re rh q).mono fun x H1 ⟨J1, h1, dx, e1, re1, rh1, rx, q1⟩ => ?_
  refine (PostS.step (R1 := rD X.K) (f := po.v) re1 rh1 q1).mono fun y H2 ⟨J2, h2, dy, e2, re2, rh2, ry, q2⟩ => ?_
  refine (PostS.step (R1 := rD X.K) (f := pi.v) re2 rh2 q2).mono fun z H3 ⟨J3, h3, dz, e3, re3, rh3, rz, q3⟩ => ?_
  cases hs : stoOp dy dz dx h3 with
  | none => rw [hs] at q3; exact False.elim q3
  | some h4 =>
    rw [hs] at q3
    exact ⟨J3, h3, dy, dz, dx, h4, rh3, ry.ext e3, rz, (rx.ext e2).ext e3, hs, fun J4 H4 e4 rh4 => q3 J4 H4 σ e4 (re3.ext e4) rh4⟩
def rAug (K : PySem.W.Frag) (o : BOp) : TIp := fun x y H Q => ∃ J dx dy d, RD K J H dx x ∧ RD K J H dy y ∧ augOp o dx dy = some d ∧ ∀ v, RD K J H d v → Q v H
def augM : BOp → Operator → Bool
  | .add, .Add => true
  | .sub, .Sub => true
  | .fdiv, .FloorDiv => true
  | .mod, .Mod => true
  | _, _ => false
theorem augM_ok {o : BOp} {op : Operator} (h : augM o op = true) : PIp X op (rAug X.K o) := by
  unfold augM at h
  split at h
  · intro pins s σ H x y v u Q I rx ry ⟨J, dx, dy, d, r1, r2, e, q⟩
    simp only [augOp] at e
    split at e
    · cases e; cases r1; cases r2
      exact iop_add pins s σ H _ _ v u Q I rx ry ⟨_, _, rfl, rfl, q _ (.int _)⟩
    · cases r1; cases r2
      split at e
      · rename_i hz; cases e
        exact iop_add_str pins s σ H _ _ v u Q I rx ry ⟨_, _, rfl, rfl, size_of hz, q _ (.str _)⟩
      · cases e
    · cases e
  · intro pins s σ H x y v u Q I rx ry ⟨J, dx, dy, d, r1, r2, e, q⟩
    simp only [augOp] at e
    split at e
    · cases e; cases r1; cases r2
      exact iop_sub pins s σ H _ _ v u Q I rx ry ⟨_, _, rfl, rfl, q _ (.int _)⟩
    · cases e
  · intro pins s σ H x y v u Q I rx ry ⟨J, dx, dy, d, r1, r2, e, q⟩
    simp only [augOp] at e
    split at e
    · cases r1; cases r2
      split at e
      · rename_i hz; cases e
        exact iop_fdiv pins s σ H _ _ v u Q I rx ry ⟨_, _, rfl, rfl, hz, q _ (.int _)⟩
      · cases e
    · cases e
  · intro pins s σ H x y v u Q I rx ry ⟨J, dx, dy, d, r1, r2, e, q⟩
    simp only [augOp] at e
    split at e
    · cases r1; cases r2
      split at e
      · rename_i hz; cases e
        exact iop_mod pins s σ H _ _ v u Q I rx ry ⟨_, _, rfl, rfl, hz, q _ (.int _)⟩
      · cases e
    · cases e
  · cases h
theorem ss_aug {i : Nat} {y : Str} {o : BOp} {op : Operator} (hN : X.N.Nodup) (hi : X.N[i]? = some y) (hx : L2.Loc X.env.scope y) (hf : X.fn y = true ∨ X.env.scope.names.lookup y = some .local) (ho : augM o op = true) (he : SE X e p) :
    PS X (.AugAssign (.Name y pos') op e pos) (tS (kw X W) fun ρ h => match ρ[i]? with
    | some (some x) => (p.v ρ h).then_ fun y h1 => match augOp o x y with
      | some z => .nxt (ρ.set i (some z)) h1
      | none => .bad
    | _ => .bad) := by
  refine (ps_aug hN hi hx he.v (augM_ok ho) hf).imp fun D σ H ⟨ρ, h, J, re, rh, q⟩ => ?_
  dsimp only at q
  cases e0 : ρ[i]? with
  | none => rw [e0] at q; exact False.elim q
  | some od =>
    cases od with
    | none => rw [e0] at q; exact False.elim q
    | some d =>
      rw [e0] at q
      obtain ⟨v, hv, rd⟩ := re.get i d e0
      refine ⟨v, hv, ?_⟩
      refine (PostS.step (R1 := rD X.K) (f := p.v) re rh q).mono fun x H1 ⟨J1, h1, dx, e1, re1, rh1, rx, q1⟩ => ?_
      cases ha : augOp o d dx with
      | none => rw [ha] at q1; exact False.elim q1
      | some z =>
        rw [ha] at q1
        exact ⟨J1, d, dx, z, rd.ext e1, rx, ha, fun w rw' => q1 J1 H1 _ Ext.refl (re1.set i rw') rh1⟩
/-- name += a list -/
def rAugL (K : PySem.W.Frag) (h : Hh) (r : Nat) (dy : D) : TIp := fun x y H Q => ∃ J h', RH K J h H ∧ RD K J H (.ref r) x ∧ RD K J H dy y ∧ augLOp r dy h = some h' ∧ ∀ J' H', Ext J H J' H' → RH K J' h' H' → Q x H'
theorem augL_ok {K0 : PySem.W.Frag} (hK : X.K = K0) : PIp X .Add (fun x y H Q => ∃ h r dy, rAugL K0 h r dy x y H Q) := by
  subst hK
  intro pins s σ H x y v u Q I rx ry ⟨h, r, dy, J, h', rh, r1, r2, e, q⟩
  cases r1 with
  | @ref _ a q1 =>
    obtain ⟨ob, w, h1, h2, h3⟩ := rh.at q1
    unfold augLOp at e
    rw [h1] at e
    cases h3 with
    | @lst ds vs z rr =>
      cases eo : dy.own h with
      | none => rw [eo] at e; cases e
      | some ys =>
        rw [eo] at e
        dsimp only at e
        split at e
        · rename_i hz
          cases e
          obtain ⟨b, ws, rfl, hb, zb, rb⟩ := own_inv rh eo r2
          have hlen : vs.length + ws.length ≤ sizeLine := by rw [← rr.length, ← rb.length]; exact size_of hz
          exact iop_ext pins s σ H _ _ v u Q I rx ry ⟨a, b, vs, ws, rfl, rfl, h2, hb, hlen, q J _ (Ext.write q1) (rh.writeL q1 (by rw [List.length_append]; exact hlen) (rr.append rb))⟩
        · cases e
    | dct z rr => cases dy.own h <;> cases e
theorem ss_augL {i : Nat} {y : Str} (hN : X.N.Nodup) (hi : X.N[i]? = some y) (hx : L2.Loc X.env.scope y) (hf : X.fn y = true ∨ X.env.scope.names.lookup y = some .local) (he : SE X e p) :
    PS X (.AugAssign (.Name y pos') .Add e pos) (tS (kw X W) fun ρ h => match ρ[i]? with
    | some (some (.ref r)) => (p.v ρ h).then_ fun y h1 => match augLOp r y h1 with
      | some h2 => .nxt (ρ.set i (some (.ref r))) h2
      | none => .bad
    | _ => .bad) := by
  refine (ps_aug hN hi hx he.v (augL_ok rfl) hf).imp fun D σ H ⟨ρ, h, J, re, rh, q⟩ => ?_
  dsimp only at q
  cases e0 : ρ[i]? with
  | none => rw [e0] at q; exact False.elim q
  | some od =>
    cases od with
    | none => rw [e0] at q; exact False.elim q
    | some d =>
      rw [e0] at q
      cases d with
      | ref r =>
        dsimp only at q
        obtain ⟨v, hv, rd⟩ := re.get i _ e0
        refine ⟨v, hv, ?_⟩
        refine (PostS.step (R1 := rD X.K) (f := p.v) re rh q).mono fun x H1 ⟨J1, h1, dx, e1, re1, rh1, rx, q1⟩ => ?_
        cases ha : augLOp r dx h1 with
        | none => rw [ha] at q1; exact False.elim q1
        | some h2 =>
          rw [ha] at q1
          exact ⟨h1, r, dx, J1, h2, rh1, rd.ext e1, rx, ha, fun J2 H2 e2 rh2 => q1 J2 H2 _ e2 ((re1.ext e2).set i ((rd.ext e1).ext e2)) rh2⟩
      | _ => exact False.elim q
/-- name = [..] -/
theorem ss_asgLc {i : Nat} {y : Str} {py sp : Pos} {elt tg iter : Expr} {ifs : List Expr} {scope : Scope} {own : List (Str × Nat)} {t : Tg} {f : Env → Hh → R Src} {v' : Env → Hh → R D} (hc : X.calm = true) (hN : X.N.Nodup) (hy : X.N[i]? = some y) (hyl : X.env.scope.names.lookup y = some .local)
    (hk : X.env.scope.kind = .function) (hl : (py.line == pos.line) = true) (hsh : (scope.names.any fun (n, k) => n == y && (k == .local || k == .cell)) = false) (hi : PI X tg iter (tI X.K f)) (ok : BlkOk X.N X.env.scope scope own) (hown : own.map (·.2) = t.slots)
    (hg : ∀ (s : Shared) (H : Hp) (C : Addr) (cl : List (Str × Addr)) (fp : List Addr), ST (X.blk s H scope (compEnvC scope cl C X.env) fp) tg t t.slots)
    (ht : ∀ (s : Shared) (H : Hp) (C : Addr) (cl : List (Str × Addr)) (fp : List Addr), PTs (X.blk s H scope (compEnvC scope cl C X.env) fp) ifs (tG X.K rB pc.t))
    (he : ∀ (s : Shared) (H : Hp) (C : Addr) (cl : List (Str × Addr)) (fp : List Addr), PE (X.blk s H scope (compEnvC scope cl C X.env) fp) elt (tG X.K (rD X.K) p.v)) (hs : ∀ x, foldedSetIterable iter X.env x = pure x)
    (hv : ∀ {σ : L2.St} {H : Hp} {Q : VK}, tG X.K (rD X.K) v' σ H Q → tF X.K (fun ρ h => (f ρ h).bind fun s h1 => if sizeOk s.items.length then lcLoop s.good (lcTurn t pc p ρ) s.items [] h1 else .bad) σ H Q) :
    PS X (.Assign [.Name y py] (.ListComp elt [⟨tg, iter, ifs, 0⟩] scope pos) sp) (tS (kw X W) fun ρ h => (v' ρ h).then_ fun x h1 => .nxt (ρ.set i (some x)) h1) := by
  refine (ps_setLc (g := gD X.K t t.slots) (tt := tG X.K rB pc.t) (te := tG X.K (rD X.K) p.v) hc hN hy hyl (sw_true hk hyl hl hsh) hi ok (fun s H C cl fp => (hg s H C cl fp).run) ht he hs).imp fun D σ H ⟨ρ, h, J, re, rh, q⟩ => ?_
  rw [hown]
  refine lc_read (hv ?_)
  exact (PostS.step (R1 := rD X.K) (f := v') re rh q).mono fun x H1 ⟨J1, h1, dx, e1, re1, rh1, rx, q1⟩ => q1 J1 H1 _ Ext.refl (re1.set i rx) rh1
end
end PV
end

section
set_option maxRecDepth 100000
namespace PV
open L2 PySem PySem.Spec PyProof.Rows

/-! ### the statements' forms -/
def stAsg : Stmt → Option (Str × Expr)
  | .Assign [.Name y _] e _ => some (y, e)
  | _ => none
def stAsgLc : Stmt → Option (Str × Expr × Expr × Expr × List Expr × Scope)
  | .Assign [.Name y py] (.ListComp elt [⟨tg, iter, ifs, a⟩] scope pos) _ => if a = 0 ∧ (py.line == pos.line) = true then some (y, elt, tg, iter, ifs, scope) else none
  | _ => none
def stPar : Stmt → Option (Str × Str × Expr × Expr)
  | .Assign [.Tuple [.Name x px, .Name y py] _ _] (.Tuple [a, b] _ _) _ => if (py.line == px.line) = true then some (x, y, a, b) else none
  | _ => none
def stUnp : Stmt → Option (List Expr × Expr)
  | .Assign [.Tuple es _ _] e _ => some (es, e)
  | _ => none
def stSto : Stmt → Option (Expr × Expr × Expr)
  | .Assign [.Subscript o i _] e _ => some (o, i, e)
  | _ => none
def stAug : Stmt → Option (Str × Operator × Expr)
  | .AugAssign (.Name y _) op e _ => some (y, op, e)
  | _ => none
def stExp : Stmt → Option Expr
  | .Expr e _ => some e
  | _ => none
def stRet : Stmt → Option Expr
  | .Return (some e) _ => some e
  | _ => none
def stRetN : Stmt → Bool
  | .Return none _ => true
  | _ => false
def stIf : Stmt → Option (Expr × List Stmt × List Stmt)
  | .If c a b _ => some (c, a, b)
  | _ => none
def stWhl : Stmt → Option (Expr × List Stmt)
  | .While c a [] _ => some (c, a)
  | _ => none
def stFor : Stmt → Option (Expr × Expr × List Stmt)
  | .For t i a [] _ => some (t, i, a)
  | _ => none
def stPass : Stmt → Bool
  | .Pass _ => true
  | _ => false
def stBrk : Stmt → Bool
  | .Break _ => true
  | _ => false
def stCnt : Stmt → Bool
  | .Continue _ => true
  | _ => false
section
variable {s : Stmt}
theorem stAsg_eq {y : Str} {e : Expr} (h : stAsg s = some (y, e)) : ∃ p q, s = .Assign [.Name y p] e q := by
  unfold stAsg at h; split at h
  · cases h; exact ⟨_, _, rfl⟩
  · cases h
theorem stAsgLc_eq {y : Str} {elt tg iter : Expr} {ifs : List Expr} {scope : Scope} (h : stAsgLc s = some (y, elt, tg, iter, ifs, scope)) : ∃ py pos q, s = .Assign [.Name y py] (.ListComp elt [⟨tg, iter, ifs, 0⟩] scope pos) q ∧ (py.line == pos.line) = true := by
  unfold stAsgLc at h; split at h
  · split at h
    · rename_i hc; cases h; obtain ⟨rfl, hl⟩ := hc; exact ⟨_, _, _, rfl, hl⟩
    · cases h
  · cases h
theorem stPar_eq {x y : Str} {a b : Expr} (h : stPar s = some (x, y, a, b)) : ∃ px py k tp k2 vp q, s = .Assign [.Tuple [.Name x px, .Name y py] k tp] (.Tuple [a, b] k2 vp) q ∧ (py.line == px.line) = true := by
  unfold stPar at h; split at h
  · split at h
    · rename_i hc; cases h; exact ⟨_, _, _, _, _, _, _, rfl, hc⟩
    · cases h
  · cases h
theorem stUnp_eq {es : List Expr} {e : Expr} (h : stUnp s = some (es, e)) : ∃ k tp q, s = .Assign [.Tuple es k tp] e q := by
  unfold stUnp at h; split at h
  · cases h; exact ⟨_, _, _, rfl⟩
  · cases h
theorem stSto_eq {o i e : Expr} (h : stSto s = some (o, i, e)) : ∃ p q, s = .Assign [.Subscript o i p] e q := by
  unfold stSto at h; split at h
  · cases h; exact ⟨_, _, rfl⟩
  · cases h
theorem stAug_eq {y : Str} {op : Operator} {e : Expr} (h : stAug s = some (y, op, e)) : ∃ p q, s = .AugAssign (.Name y p) op e q := by
  unfold stAug at h; split at h
  · cases h; exact ⟨_, _, rfl⟩
  · cases h
theorem stExp_eq {e : Expr} (h : stExp s = some e) : ∃ q, s = .Expr e q := by
  unfold stExp at h; split at h
  · cases h; exact ⟨_, rfl⟩
  · cases h
theorem stRet_eq {e : Expr} (h : stRet s = some e) : ∃ q, s = .Return (some e) q := by
  unfold stRet at h; split at h
  · cases h; exact ⟨_, rfl⟩
  · cases h
theorem stRetN_eq (h : stRetN s = true) : ∃ q, s = .Return none q := by
  unfold stRetN at h; split at h
  · exact ⟨_, rfl⟩
  · cases h
theorem stIf_eq {c : Expr} {a b : List Stmt} (h : stIf s = some (c, a, b)) : ∃ q, s = .If c a b q := by
  unfold stIf at h; split at h
  · cases h; exact ⟨_, rfl⟩
  · cases h
theorem stWhl_eq {c : Expr} {a : List Stmt} (h : stWhl s = some (c, a)) : ∃ q, s = .While c a [] q := by
  unfold stWhl at h; split at h
  · cases h; exact ⟨_, rfl⟩
  · cases h
theorem stFor_eq {t i : Expr} {a : List Stmt} (h : stFor s = some (t, i, a)) : ∃ q, s = .For t i a [] q := by
  unfold stFor at h; split at h
  · cases h; exact ⟨_, rfl⟩
  · cases h
theorem stPass_eq (h : stPass s = true) : ∃ q, s = .Pass q := by
  unfold stPass at h; split at h
  · exact ⟨_, rfl⟩
  · cases h
theorem stBrk_eq (h : stBrk s = true) : ∃ q, s = .Break q := by
  unfold stBrk at h; split at h
  · exact ⟨_, rfl⟩
  · cases h
theorem stCnt_eq (h : stCnt s = true) : ∃ q, s = .Continue q := by
  unfold stCnt at h; split at h
  · exact ⟨_, rfl⟩
  · cases h
end
def Cs.lcl (c : Cs) (x : Str) : Bool := decide (c.sc.names.lookup x = some .local)
def Cs.cel (c : Cs) (x : Str) : Bool := decide (c.sc.names.lookup x = some .cell)
def celTwo (c : Cs) (es : List Expr) : Bool := es.any fun e => match asName e with
  | some x => c.cel x
  | none => false
theorem celTwo_ok {c : Cs} {es : List Expr} {e : Expr} {k : Nat} {tp : Pos} {env : PySem.Env} (hs : env.scope = c.sc) (h : celTwo c es = true) : swappedStores [.Tuple es k tp] e env = pure none := by
  obtain ⟨y, hy, hc⟩ := List.any_eq_true.mp h
  split at hc
  · rename_i x hx
    obtain ⟨p, rfl⟩ := asName_eq hx
    exact swapped_cel ⟨_, hy, x, p, rfl, by rw [hs]; exact of_decide_eq_true hc⟩
  · cases hc
def Cs.isF (c : Cs) : Bool := decide (c.sc.kind = .function)
/-- a list comprehension that is bound to a name -/
def mLc (c : Cs) (y : Str) (elt tg iter : Expr) (ifs : List Expr) (scope : Scope) : E → Bool
  | .lc t it d e => blkC c.N c.sc scope (c.own t) && mI c it tg iter && plainX iter && mT (c.blk scope) t tg && mE (c.blk scope) e elt && (match ifs with
      | [] => d.isMiss
      | [i] => mE (c.blk scope) d i
      | _ => false) && c.isF && c.lcl y && !(scope.names.any fun (n, k) => n == y && (k == .local || k == .cell))
  | _ => false
def E.body : E → E
  | .new e => e
  | e => e
def stRaise : Stmt → Option Str
  | .Raise (some (.Call (.Name x _) [.Constant (.str _) _ _] [] _)) none _ => some x
  | _ => none
theorem stRaise_eq {s : Stmt} {x : Str} (h : stRaise s = some x) : ∃ p m j p2 p3 p4, s = .Raise (some (.Call (.Name x p) [.Constant (.str m) j p2] [] p3)) none p4 := by
  unfold stRaise at h; split at h
  · cases h; exact ⟨_, _, _, _, _, _, rfl⟩
  · cases h
def stTry : Stmt → Option (List Stmt × Str × List Stmt)
  | .Try body [.ExceptHandler (some (.Name x _)) none (b :: suite) _] [] [] _ => some (body, x, b :: suite)
  | _ => none
theorem stTry_eq {s : Stmt} {body suite : List Stmt} {x : Str} (h : stTry s = some (body, x, suite)) : ∃ p b sr p2 p3, suite = b :: sr ∧ s = .Try body [.ExceptHandler (some (.Name x p)) none (b :: sr) p2] [] [] p3 := by
  unfold stTry at h; split at h
  · cases h; exact ⟨_, _, _, _, _, rfl, rfl⟩
  · cases h
mutual
def mSuE (c : Cs) : E → Expr → Bool
  | .con d, x => match asCon x with | some k => conM d k | none => false
  | .var i, x => match asName x with | some y => c.vis i y | none => false
  | .tup es, x => match asTup x with | some xs => mSuEs c es xs | none => false
  | .fld a f ks, x => match asFld x with
    | some (y, g) => decide (g = f) && baseX y && mSuE c a y && (ks.all fun z => decide ((z, f) ∈ c.xm.f))
    | none => false
  | _, _ => false
def mSuEs (c : Cs) : Es → List Expr → Bool
  | .nil, [] => true
  | .cons e es, x :: xs => plainX x && mSuE c e x && mSuEs c es xs
  | _, _ => false
end
def mSu1 (c : Cs) : S → Stmt → Bool
  | .asg i e, s => match stAsg s with
    | some (y, x) => c.loc i y && mSuE c e x
    | none => false
  | .ret e, s => match stRet s with
    | some x => mSuE c e x
    | none => false
  | .pass, s => stPass s
  | _, _ => false
def mSu (c : Cs) : Ss → List Stmt → Bool
  | .nil, [] => true
  | .cons s ss, st :: sts => mSu1 c s st && mSu c ss sts
  | _, _ => false
def stTryAs : Stmt → Option (List Stmt × Str × Str × List Stmt)
  | .Try body [.ExceptHandler (some (.Name x _)) (some n) (b :: suite) _] [] [] _ => some (body, x, n, b :: suite)
  | _ => none
theorem stTryAs_eq {s : Stmt} {body suite : List Stmt} {x n : Str} (h : stTryAs s = some (body, x, n, suite)) : ∃ p b sr p2 p3, suite = b :: sr ∧ s = .Try body [.ExceptHandler (some (.Name x p)) (some n) (b :: sr) p2] [] [] p3 := by
  unfold stTryAs at h; split at h
  · cases h; exact ⟨_, _, _, _, _, rfl, rfl⟩
  · cases h
mutual
def mS (c : Cs) : S → Stmt → Bool
  | .asg i e, s => match stAsg s with
    | some (y, x) => c.loc i y && mayAsg (c.cel y) x && mE c e x
    | none => false
  | .asgLc i e, s => match stAsgLc s with
    | some (y, elt, tg, iter, ifs, scope) => decide (c.N[i]? = some y) && mLc c y elt tg iter ifs scope e.body
    | none => false
  | .par i j a b, s => match stPar s with
    | some (x, y, ea, eb) => decide (c.N[i]? = some x) && decide (c.N[j]? = some y) && decide (i ≠ j) && c.isF && c.lcl x && c.lcl y && decide (x ≠ y) && plainX ea && plainX eb && !(foldedForSure 8 ea && foldedForSure 8 eb) && !(constantsAlone 8 ea && constantsAlone 8 eb) && mE c a ea && mE c b eb
    | none => false
  | .unp is e, s => match stUnp s with
    | some (es, x) => mVs c is es && notComp x && ((asTup x).isNone || celTwo c es) && mE c e x
    | none => false
  | .sto o i e, s => match stSto s with
    | some (eo, ei, x) => plainX ei && mE c o eo && mE c i ei && mE c e x
    | none => false
  | .aug i o e, s => match stAug s with
    | some (y, op, x) => c.loc i y && augM o op && mE c e x
    | none => false
  | .augL i e, s => match stAug s with
    | some (y, op, x) => match op with
      | .Add => c.loc i y && mE c e x
      | _ => false
    | none => false
  | .exp e, s => match stExp s with
    | some x => notComp x && mE c e x
    | none => false
  | .ret e, s => match stRet s with
    | some x => mE c e x
    | none => false
  | .retN, s => stRetN s
  | .ite t a b, s => match stIf s with
    | some (x, as, bs) => mE c t x && mSs c a as && mSs c b bs
    | none => false
  | .whl t b, s => match stWhl s with
    | some (x, bs) => mE c t x && mSs c b bs
    | none => false
  | .for_ t it b, s => match stFor s with
    | some (tg, x, bs) => mT c t tg && mI c it tg x && plainX x && mSs c b bs
    | none => false
  | .pass, s => stPass s
  | .brk, s => stBrk s
  | .cnt, s => stCnt s
  | .gc _ b, s => mS c b s
  | .asgC i f es, s => match stAsg s with
    | some (y, x) => c.loc i y && mE c (.call f es) x
    | none => false
  | .expC f es, s => match stExp s with
    | some x => mE c (.call f es) x
    | none => false
  | .retC f es, s => match stRet s with
    | some x => mE c (.call f es) x
    | none => false
  | .raise_ k, s => match stRaise s with
    | some y => decide (y = k) && decide (k ∈ c.xs) && c.glb k
    | none => false
  | .try_ b k yes no su, s => match stTry s with
    | some (body, y, suite) => decide (y = k) && decide (k ∈ c.xs) && c.glb k && mSs c b body && mSu c su suite && (yes.all fun x => decide ((x, k, true) ∈ c.xm.m)) && (no.all fun x => decide ((x, k, false) ∈ c.xm.m))
    | none => false
  | .tryAs b k yes no i su, s => match stTryAs s with
    | some (body, y, n, suite) => decide (y = k) && decide (k ∈ c.xs) && c.glb k && decide (c.N[i]? = some n) && c.lcl n && mSs c b body && mSu c su suite && (yes.all fun x => decide ((x, k, true) ∈ c.xm.m)) && (no.all fun x => decide ((x, k, false) ∈ c.xm.m))
    | none => false
def mSs (c : Cs) : Ss → List Stmt → Bool
  | .nil, [] => true
  | .cons s ss, st :: sts => mS c s st && mSs c ss sts
  | _, _ => false
end
structure OkS (c : Cs) (F : Fns) (G : List D) (X : Cx) (W : WX) : Prop extends Ok c F G X where
  pass : PassesOwn (model X.prog X.w) X.A X.env X.xe
  takes : Takes X W
  stk : X.stack = X.env :: X.outer
  frm : X.env.frame = some X.env.locals
section
variable {c : Cs} {F : Fns} {G : List D} {X : Cx} {W : WX}
theorem lcl_ok (o : Ok c F G X) {x : Str} (h : c.lcl x = true) : X.env.scope.names.lookup x = some .local := by rw [o.sc]; exact of_decide_eq_true h
theorem isF_ok (o : Ok c F G X) (h : c.isF = true) : X.env.scope.kind = .function := by rw [o.sc]; exact of_decide_eq_true h
theorem ss_lc {i : Nat} {y : Str} {py pos sp : Pos} {elt tg iter : Expr} {ifs : List Expr} {scope : Scope} (o : Ok c F G X) : ∀ (e : E) {v' : Env → Hh → R D}, decide (c.N[i]? = some y) = true → mLc c y elt tg iter ifs scope e = true → (py.line == pos.line) = true →
    (∀ {σ : L2.St} {H : Hp} {Q : VK}, tG X.K (rD X.K) v' σ H Q → tF X.K (evE F G e).v σ H Q) →
    PS X (.Assign [.Name y py] (.ListComp elt [⟨tg, iter, ifs, 0⟩] scope pos) sp) (tS (kw X W) fun ρ h => (v' ρ h).then_ fun x h1 => .nxt (ρ.set i (some x)) h1)
  | .lc t it d e, v', hn, h, hl, hv => by
    simp only [mLc, Bool.and_eq_true, Bool.not_eq_true'] at h
    (obtain ⟨⟨⟨⟨⟨⟨⟨⟨h1, h2⟩, h3⟩, h4⟩, h5⟩, h6⟩, h7⟩, h8⟩, h9⟩ := h)
    refine ss_asgLc (pc := evE F G d) (p := evE F G e) o.calm o.nd (by rw [o.hN]; exact of_decide_eq_true hn) (lcl_ok o h8) (isF_ok o h7) hl h9 (sI it o _ _ h2) (blkOk_by (by rw [o.hN, o.sc]; exact h1)) (own_snd t) (fun s H C cl fp => st_ok o.blk h4) (fun s H C cl fp => ?_) (fun s H C cl fp => (sE e o.blk _ h5).v) (plain_fold h3 _) hv
    split at h6
    · cases d with
      | miss => exact ⟨fun pins s σ H Q I ⟨ρ, h, J, re, rh, q⟩ => pts_nil.run pins s σ H Q I (q J H true Ext.refl rh rfl)⟩
      | _ => cases h6
    · exact pts_one (sE d o.blk _ h6).t
    · cases h6
  | .var _, _, _, h, _, _ => by cases h
  | .con _, _, _, h, _, _ => by cases h
  | .glo _, _, _, h, _, _ => by cases h
  | .miss, _, _, h, _, _ => by cases h
  | .tup _, _, _, h, _, _ => by cases h
  | .ftup _, _, _, h, _, _ => by cases h
  | .lst _, _, _, h, _, _ => by cases h
  | .new _, _, _, h, _, _ => by cases h
  | .dic0, _, _, h, _, _ => by cases h
  | .bin _ _ _, _, _, h, _, _ => by cases h
  | .neg _, _, _, h, _, _ => by cases h
  | .cmp _ _ _, _, _, h, _, _ => by cases h
  | .chain _ _ _ _ _, _, _, h, _, _ => by cases h
  | .and _ _, _, _, h, _, _ => by cases h
  | .or _ _, _, _, h, _, _ => by cases h
  | .not _, _, _, h, _, _ => by cases h
  | .ite _ _ _, _, _, h, _, _ => by cases h
  | .idx _ _, _, _, h, _, _ => by cases h
  | .slc _ _ _, _, _, h, _, _ => by cases h
  | .call _ _, _, _, h, _, _ => by cases h
  | .callK _ _ _ _, _, _, h, _, _ => by cases h
  | .isi _ _, _, _, h, _, _ => by cases h
  | .tenum _, _, _, h, _, _ => by cases h
  | .sset _, _, _, h, _, _ => by cases h
  | .dcl _ _ _ _ _, _, _, h, _, _ => by cases h
  | .trng _, _, _, h, _, _ => by cases h
  | .isi2 _, _, _, h, _, _ => by cases h
  | .isx _ _ _ _, _, _, h, _, _ => by cases h
  | .fld _ _ _, _, _, h, _, _ => by cases h
  | .mth _ _ _, _, _, h, _, _ => by cases h
  | .bf _ _, _, _, h, _, _ => by cases h
theorem lc_lst2 : ∀ (e : E) {y : Str} {elt tg iter : Expr} {ifs : List Expr} {scope : Scope}, mLc c y elt tg iter ifs scope e = true → ∀ ρ h d h', (evE F G e).v ρ h = .ok d h' → ∃ ds, d = .lst ds := by
  intro e y elt tg iter ifs scope h
  cases e with
  | lc t it d e => exact fun ρ h d h' ev => lc_lst _ _ _ _ ev
  | _ => cases h
theorem tCX_mono {F : Fns} {f n : Nat} {l : Env → Hh → R (List D)} {σ : L2.St} {H : Hp} {Q Q' : VK} (t : tCX X W F f n l σ H Q) (m : ∀ v H1, Q v H1 → Q' v H1) : tCX X W F f n l σ H Q' :=
  tG.mono t fun vs H1 ⟨J1, h1, ds, rh1, rs, hl, p⟩ => ⟨J1, h1, ds, rh1, rs, hl, by
    cases e : F f ds h1 with
    | ok d h2 => rw [e] at p; exact fun J2 H2 b e2 rh2 rd => m _ _ (p J2 H2 b e2 rh2 rd)
    | err x h2 => rw [e] at p; exact p
    | bad => rw [e] at p; exact p⟩
theorem mCall_ok {f : Nat} {es : Es} {x : Expr} (h : mE c (.call f es) x = true) : ∃ fn y xs p q, x = .Call (.Name y p) xs [] q ∧ c.T[f]? = some fn ∧ fn.name = y ∧ c.glb y = true ∧ plainXs xs = true ∧ mEs c es xs = true ∧ xs.length = fn.P.length := by
  simp only [mE] at h
  split at h
  · rename_i y xs hy
    obtain ⟨p, q, rfl⟩ := asCall_eq hy
    split at h
    · rename_i fn hf
      (simp only [Bool.and_eq_true, decide_eq_true_eq] at h)
      obtain ⟨⟨⟨⟨h1, h2⟩, h3⟩, h4⟩, h5⟩ := h
      exact ⟨fn, y, xs, p, q, rfl, hf, h1, h3, h4, h5, h2.symm⟩
    · cases h
  · cases h
/-! a suite's statements: no call, no raise -/
theorem se_varF {i : Nat} {y : Str} {pos : Pos} (h1 : X.N[i]? = some y) (h2 : Vis X.env.scope y) (h3 : (y == ("__debug__" : Str)) = false) (h4 : (y == ("__classdict__" : Str)) = false) : SE X (.Name y pos) (evE F G (.var i)) := by
  refine SE.plain ((pe_var h1 h2 h3 h4).imp fun σ H Q ⟨ρ, hh, J, re, rh, q⟩ => ?_) (fun _ => rfl)
  cases e : ρ[i]? with
  | none => simp only [e] at q; exact False.elim q
  | some od =>
    cases od with
    | none => simp only [e] at q; exact False.elim q
    | some d =>
      simp only [e] at q
      obtain ⟨v, hv, rd⟩ := re.get i d e
      exact ⟨v, hv, q J H v Ext.refl rh rd⟩
mutual
theorem sSuE {a : Addr} {pn : List (Addr × Obj)} (o : Ok c F G X) : ∀ (e : E) (x : Expr), mSuE c e x = true → SE (X.suite a pn) x (evE F G e) ∧ notComp x = true
  | .con d, x, h => by
    simp only [mSuE] at h
    split at h
    · rename_i k hy
      obtain ⟨n, p, rfl⟩ := asCon_eq hy
      exact ⟨se_con h, rfl⟩
    · cases h
  | .var i, x, h => by
    simp only [mSuE] at h
    split at h
    · rename_i y hy
      obtain ⟨p, rfl⟩ := asName_eq hy
      obtain ⟨h1, h2, h3, h4⟩ := vis_ok o h
      exact ⟨se_varF (X := X.suite a pn) h1 h2 h3 h4, rfl⟩
    · cases h
  | .glo _, _, h => by cases h
  | .miss, _, h => by cases h
  | .tup es, x, h => by
    simp only [mSuE] at h
    split at h
    · rename_i xs hy
      obtain ⟨n, p, rfl⟩ := asTup_eq hy
      exact ⟨se_tup (sSuEs o es xs h), rfl⟩
    · cases h
  | .fld b f ks, x, h => by
    simp only [mSuE] at h
    split at h
    · rename_i y g hy
      obtain ⟨p, rfl⟩ := asFld_eq hy
      (simp only [Bool.and_eq_true, decide_eq_true_eq, List.all_eq_true] at h)
      (obtain ⟨⟨⟨h1, h2⟩, h3⟩, h4⟩ := h)
      subst h1
      exact ⟨se_fld (X := X.suite a pn) (c := c) o.exm h2 h4 (sSuE o b y h3).1, rfl⟩
    · cases h
  | .isi2 _, _, h => by cases h
  | .isx _ _ _ _, _, h => by cases h
  | .ftup _, _, h => by cases h
  | .lst _, _, h => by cases h
  | .new _, _, h => by cases h
  | .dic0, _, h => by cases h
  | .bin _ _ _, _, h => by cases h
  | .neg _, _, h => by cases h
  | .cmp _ _ _, _, h => by cases h
  | .chain _ _ _ _ _, _, h => by cases h
  | .and _ _, _, h => by cases h
  | .or _ _, _, h => by cases h
  | .not _, _, h => by cases h
  | .ite _ _ _, _, h => by cases h
  | .idx _ _, _, h => by cases h
  | .slc _ _ _, _, h => by cases h
  | .call _ _, _, h => by cases h
  | .callK _ _ _ _, _, h => by cases h
  | .isi _ _, _, h => by cases h
  | .tenum _, _, h => by cases h
  | .sset _, _, h => by cases h
  | .dcl _ _ _ _ _, _, h => by cases h
  | .trng _, _, h => by cases h
  | .mth _ _ _, _, h => by cases h
  | .bf _ _, _, h => by cases h
  | .lc _ _ _ _, _, h => by cases h
theorem sSuEs {a : Addr} {pn : List (Addr × Obj)} (o : Ok c F G X) : ∀ (es : Es) (xs : List Expr), mSuEs c es xs = true → SEs (X.suite a pn) xs (evEs F G es)
  | .nil, [], h => ses_nil
  | .nil, _ :: _, h => by cases h
  | .cons _ _, [], h => by cases h
  | .cons e es, x :: xs, h => by
    simp only [mSuEs, Bool.and_eq_true] at h
    exact ses_cons h.1.1 (sSuE o e x h.1.2).1 (sSuEs o es xs h.2)
end
theorem sSu1 {a : Addr} {pn : List (Addr × Obj)} (o : Ok c F G X) (s : S) (x : Stmt) (h : mSu1 c s x = true) : PS (X.suite a pn) x (tS (kw (X.suite a pn) W) (evS F G s)) := by
  cases s with
  | asg i e =>
    simp only [mSu1] at h
    split at h
    · rename_i y z hy
      obtain ⟨p, q, rfl⟩ := stAsg_eq hy
      (simp only [Bool.and_eq_true] at h)
      obtain ⟨h1, h2, h3⟩ := loc_ok o h.1
      obtain ⟨se, nc⟩ := sSuE (a := a) (pn := pn) o e z h.2
      exact ss_asg (X := X.suite a pn) (c := false) o.nd h1 h2 h3 (fun z => by cases z) (by cases z <;> first | exact nc | rfl) se
    · cases h
  | ret e =>
    simp only [mSu1] at h
    split at h
    · rename_i z hy
      obtain ⟨q, rfl⟩ := stRet_eq hy
      exact ss_ret (sSuE (a := a) (pn := pn) o e z h).1
    · cases h
  | pass => obtain ⟨q, rfl⟩ := stPass_eq h; exact ss_pass
  | _ => cases h
theorem sSu {a : Addr} {pn : List (Addr × Obj)} (o : Ok c F G X) : ∀ (s : Ss) (xs : List Stmt), mSu c s xs = true → PSs (X.suite a pn) xs (tS (kw (X.suite a pn) W) (evSs F G s))
  | .nil, [], _ => ss_nil
  | .nil, _ :: _, h => by cases h
  | .cons _ _, [], h => by cases h
  | .cons s ss, x :: xs, h => by
    simp only [mSu, Bool.and_eq_true] at h
    exact ss_cons (sSu1 o s x h.1) (sSu o ss xs h.2)
theorem PostS.ext' {κ : KW} {J J' : Jn} {H H' : Hp} {h h' : Hh} {D : Ends} {r : RS} (rh : RH κ.K J h H) (rh' : RH κ.K J' h' H') (e : Ext J H J' H') (p : PostS κ J H r D) : PostS κ J' H' r D := PostS.ext rh rh' e p
/-- the clause's name is set, the exception tracked, the suite runs, the name goes -/
theorem caught_post {κ : KW} {J J' : Jn} {H H' : Hp} {h h' : Hh} {D : Ends} {ρ' : Env} {σ' : L2.St} {x : Xc} {d : Option Addr} {a : Addr} {i : Nat} {f : Env → Hh → RS} (rh : RH κ.K J h H) (rh1 : RH κ.K J' h' H') (re1 : RE κ.K J' H' ρ' σ') (e1 : Ext J H J' H') (na : H' a = none) (rd : RXd κ.K J' H' x d)
    (q : PostS κ J H (dropS i (f (ρ'.set i (some x.d)) h')) D) : tS κ f ⟨fun s u => D.nx (s.set i none) u, D.rt, fun s u => D.bk (s.set i none) u, fun s u => D.ct (s.set i none) u⟩ (σ'.set i (some (.ref a))) (upd H' a (ExD (.ref (He.ga κ.K x.cls)) d a)) := by
  have lay := Ext.laid (J := J') (o := ExD (.ref (He.ga κ.K x.cls)) d a) na
  have rx : RD κ.K J' (upd H' a (ExD (.ref (He.ga κ.K x.cls)) d a)) x.d (.ref a) := by
    obtain ⟨k, fl⟩ := x
    cases fl with
    | none =>
      cases (show d = none from rd)
      exact .exc (rh1.notin na) (rh1.notz na) upd_same
    | some p =>
      obtain ⟨b, v, rfl, n1, n2, eb, r⟩ := (show ∃ b v, d = some b ∧ b ∉ J'.l ∧ b ∉ J'.z ∧ H' b = some (.xd [(p.1, v)]) ∧ RD κ.K J' H' p.2 v from rd)
      exact .exf (rh1.notin na) (rh1.notz na) upd_same n1 n2 (lay.keep _ _ n1 eb) (r.ext lay)
  have rh2 := rh1.laid (o := ExD (.ref (He.ga κ.K x.cls)) d a) na
  refine ⟨ρ'.set i (some x.d), h', J', (re1.ext lay).set i rx, rh2, ?_⟩
  have q2 := PostS.ext' rh rh2 (e1.trans rh rh1 lay) q
  cases er : f (ρ'.set i (some x.d)) h' with
  | bad => rw [er] at q2; exact q2
  | nxt ρ2 h2 => rw [er] at q2; exact fun J2 H2 s e2 re2 rh2 => q2 J2 H2 _ e2 (re2.drop i) rh2
  | brk ρ2 h2 => rw [er] at q2; exact fun J2 H2 s e2 re2 rh2 => q2 J2 H2 _ e2 (re2.drop i) rh2
  | cnt ρ2 h2 => rw [er] at q2; exact fun J2 H2 s e2 re2 rh2 => q2 J2 H2 _ e2 (re2.drop i) rh2
  | ret d2 h2 => rw [er] at q2; exact q2
  | err ρ2 x2 h2 => rw [er] at q2; exact q2
mutual
theorem sS : ∀ (t : S) {X : Cx} {W : WX} (o : OkS c F G X W) (x : Stmt), mS c t x = true → PS X x (tS (kw X W) (evS F G t))
  | .asg i e, X, W, o, x, h => by
    simp only [mS] at h
    split at h
    · rename_i y z hy
      obtain ⟨p, q, rfl⟩ := stAsg_eq hy
      (simp only [Bool.and_eq_true] at h)
      obtain ⟨h1, h2, h3⟩ := loc_ok o.toOk h.1.1
      exact ss_asg o.nd h1 h2 h3 (fun q => by rw [o.sc]; exact of_decide_eq_true q) h.1.2 (sE e o.toOk _ h.2)
    · cases h
  | .asgLc i e, X, W, o, x, h => by
    simp only [mS] at h
    split at h
    · rename_i y elt tg iter ifs scope hy
      obtain ⟨py, pos, q, rfl, hl⟩ := stAsgLc_eq hy
      (simp only [Bool.and_eq_true] at h)
      cases e with
      | new e => exact ss_lc o.toOk e h.1 h.2 hl fun t => tF_new t
      | lc t it d e => exact ss_lc o.toOk (.lc t it d e) h.1 h.2 hl fun t => tF_of (lc_lst2 _ h.2) t
      | _ => cases h.2
    · cases h
  | .par i j a b, X, W, o, x, h => by
    simp only [mS] at h
    split at h
    · rename_i x y ea eb hy
      obtain ⟨px, py, k, tp, k2, vp, q, rfl, hl⟩ := stPar_eq hy
      simp only [Bool.and_eq_true, decide_eq_true_eq, Bool.not_eq_true'] at h
      obtain ⟨⟨⟨⟨⟨⟨⟨⟨⟨⟨⟨⟨h1, h2⟩, h3⟩, h4⟩, h5⟩, h6⟩, h7⟩, h8⟩, h9⟩, h10⟩, h11⟩, h12⟩, h13⟩ := h
      exact ss_par o.calm o.nd (by rw [o.hN]; exact h1) (by rw [o.hN]; exact h2) h3 (isF_ok o.toOk h4) (lcl_ok o.toOk h5) (lcl_ok o.toOk h6) h7 hl h8 h9 h10 h11 (sE a o.toOk _ h12) (sE b o.toOk _ h13)
    · cases h
  | .unp is e, X, W, o, x, h => by
    simp only [mS] at h
    split at h
    · rename_i es z hy
      obtain ⟨k, tp, q, rfl⟩ := stUnp_eq hy
      simp only [Bool.and_eq_true, Bool.or_eq_true, Option.isNone_iff_eq_none] at h
      exact ss_unp o.calm (svs_ok o.toOk h.1.1.1) h.1.1.2 (h.1.2.elim (fun t => swapped_no t) fun t => celTwo_ok o.sc t) (sE e o.toOk _ h.2)
    · cases h
  | .sto a i e, X, W, o, x, h => by
    simp only [mS] at h
    split at h
    · rename_i ea ei z hy
      obtain ⟨p, q, rfl⟩ := stSto_eq hy
      (simp only [Bool.and_eq_true] at h)
      exact ss_sto o.units h.1.1.1 (sE a o.toOk _ h.1.1.2) (sE i o.toOk _ h.1.2) (sE e o.toOk _ h.2)
    · cases h
  | .aug i op e, X, W, o, x, h => by
    simp only [mS] at h
    split at h
    · rename_i y p z hy
      obtain ⟨q, r, rfl⟩ := stAug_eq hy
      (simp only [Bool.and_eq_true] at h)
      obtain ⟨h1, h2, h3⟩ := loc_ok o.toOk h.1.1
      exact ss_aug o.nd h1 h2 h3 h.1.2 (sE e o.toOk _ h.2)
    · cases h
  | .augL i e, X, W, o, x, h => by
    simp only [mS] at h
    split at h
    · rename_i y p z hy
      obtain ⟨q, r, rfl⟩ := stAug_eq hy
      split at h
      · (simp only [Bool.and_eq_true] at h)
        obtain ⟨h1, h2, h3⟩ := loc_ok o.toOk h.1
        exact ss_augL o.nd h1 h2 h3 (sE e o.toOk _ h.2)
      · cases h
    · cases h
  | .exp e, X, W, o, x, h => by
    simp only [mS] at h
    split at h
    · rename_i z hy
      obtain ⟨q, rfl⟩ := stExp_eq hy
      (simp only [Bool.and_eq_true] at h)
      exact ss_exp h.1 (sE e o.toOk _ h.2)
    · cases h
  | .ret e, X, W, o, x, h => by
    simp only [mS] at h
    split at h
    · rename_i z hy
      obtain ⟨q, rfl⟩ := stRet_eq hy
      exact ss_ret (sE e o.toOk _ h)
    · cases h
  | .retN, X, W, o, x, h => by obtain ⟨q, rfl⟩ := stRetN_eq h; exact ss_retN
  | .ite t a b, X, W, o, x, h => by
    simp only [mS] at h
    split at h
    · rename_i z as bs hy
      obtain ⟨q, rfl⟩ := stIf_eq hy
      (simp only [Bool.and_eq_true] at h)
      exact ss_if (sE t o.toOk _ h.1.1) (sSs a o _ h.1.2) (sSs b o _ h.2)
    · cases h
  | .whl t b, X, W, o, x, h => by
    simp only [mS] at h
    split at h
    · rename_i z bs hy
      obtain ⟨q, rfl⟩ := stWhl_eq hy
      (simp only [Bool.and_eq_true] at h)
      exact ss_whl o.pass (sE t o.toOk _ h.1) (sSs b o _ h.2)
    · cases h
  | .for_ t it b, X, W, o, x, h => by
    simp only [mS] at h
    split at h
    · rename_i tg z bs hy
      obtain ⟨q, rfl⟩ := stFor_eq hy
      (simp only [Bool.and_eq_true] at h)
      exact ss_for o.pass o.calm (sI it o.toOk _ _ h.1.1.2) (st_ok o.toOk h.1.1.1) (sSs b o _ h.2) h.1.2
    · cases h
  | .pass, X, W, o, x, h => by obtain ⟨q, rfl⟩ := stPass_eq h; exact ss_pass
  | .brk, X, W, o, x, h => by obtain ⟨q, rfl⟩ := stBrk_eq h; exact ss_brk
  | .cnt, X, W, o, x, h => by obtain ⟨q, rfl⟩ := stCnt_eq h; exact ss_cnt
  | .gc ks b, X, W, o, x, h => (sS b o x h).imp fun D σ H ⟨ρ, h, J, re, rh, q⟩ => ⟨ρ, h, J, re, rh, q.gc rh⟩
  | .asgC i f es, X, W, o, x, h => by
    simp only [mS] at h
    split at h
    · rename_i y z hy
      obtain ⟨p, q, rfl⟩ := stAsg_eq hy
      (simp only [Bool.and_eq_true] at h)
      obtain ⟨h1, h2, h3⟩ := loc_ok o.toOk h.1
      obtain ⟨fn, y2, xs, p1, p2, rfl, hf, hn, hg, hp, hm, hl⟩ := mCall_ok h.2
      refine (ps_set (e := .Call (.Name y2 p1) xs [] p2) o.nd h1 h2 (pe_callX o.toOk o.takes hf hn hg hp (mEs_nil hm) (sEs es o.toOk _ hm)) (by rfl) h3).imp fun D σ H ⟨ρ, h, J, re, rh, q⟩ => ?_
      refine tCX_mono (callX_do (g := fun x ρ h2 => .nxt (ρ.set i (some x)) h2) (fun ρ h0 ds h' e => by rw [es_len es _ _ _ _ e, mEs_len hm, hl]) ρ h J re rh q) fun v H1 ⟨d, h1, J1, re1, rh1, rd, q1⟩ => ?_
      exact q1 J1 H1 _ Ext.refl (re1.set i rd) rh1
    · cases h
  | .expC f es, X, W, o, x, h => by
    simp only [mS] at h
    split at h
    · rename_i z hy
      obtain ⟨q, rfl⟩ := stExp_eq hy
      obtain ⟨fn, y2, xs, p1, p2, rfl, hf, hn, hg, hp, hm, hl⟩ := mCall_ok h
      refine (ps_expr (e := .Call (.Name y2 p1) xs [] p2) (pe_callX o.toOk o.takes hf hn hg hp (mEs_nil hm) (sEs es o.toOk _ hm)) (by rfl)).imp fun D σ H ⟨ρ, h, J, re, rh, q⟩ => ?_
      refine tCX_mono (callX_do (g := fun _ ρ h2 => .nxt ρ h2) (fun ρ h0 ds h' e => by rw [es_len es _ _ _ _ e, mEs_len hm, hl]) ρ h J re rh q) fun v H1 ⟨d, h1, J1, re1, rh1, rd, q1⟩ => ?_
      exact q1 J1 H1 _ Ext.refl re1 rh1
    · cases h
  | .retC f es, X, W, o, x, h => by
    simp only [mS] at h
    split at h
    · rename_i z hy
      obtain ⟨q, rfl⟩ := stRet_eq hy
      obtain ⟨fn, y2, xs, p1, p2, rfl, hf, hn, hg, hp, hm, hl⟩ := mCall_ok h
      refine (ps_ret (e := .Call (.Name y2 p1) xs [] p2) (pe_callX o.toOk o.takes hf hn hg hp (mEs_nil hm) (sEs es o.toOk _ hm))).imp fun D σ H ⟨ρ, h, J, re, rh, q⟩ => ?_
      refine tCX_mono (callX_do (g := fun x ρ h2 => .ret x h2) (fun ρ h0 ds h' e => by rw [es_len es _ _ _ _ e, mEs_len hm, hl]) ρ h J re rh q) fun v H1 ⟨d, h1, J1, re1, rh1, rd, q1⟩ => ?_
      exact q1 J1 H1 _ Ext.refl rh1 rd
    · cases h
  | .raise_ k, X, W, o, x, h => by
    simp only [mS] at h
    split at h
    · rename_i y hy
      obtain ⟨p, m, j, p2, p3, p4, rfl⟩ := stRaise_eq hy
      (simp only [Bool.and_eq_true, decide_eq_true_eq] at h)
      obtain ⟨⟨rfl, hk⟩, hg⟩ := h
      obtain ⟨C, hm, hx, hkp, hr⟩ := o.exc _ hk
      obtain ⟨g1, g2⟩ := glb_ok o.toOk hg
      exact (ps_raise o.calm o.takes (pmk_own PySem.F.excBase_ValueError hx hm hkp hr g1 g2)).imp fun D σ H ⟨ρ, h, J, re, rh, q⟩ => q J H σ _ _ Ext.refl re rh ⟨⟨C, rfl, hm⟩, (rfl : RXd X.K J H ⟨_, none⟩ none)⟩
    · cases h
  | .try_ b k yes no s, X, W, o, x, h => by
    simp only [mS] at h
    split at h
    · rename_i body y suite hy
      obtain ⟨p, b0, sr, p2, p3, rfl, rfl⟩ := stTry_eq hy
      simp only [Bool.and_eq_true, decide_eq_true_eq, List.all_eq_true] at h
      obtain ⟨⟨⟨⟨⟨⟨rfl, hk⟩, hg⟩, hb⟩, hs⟩, hyes⟩, hno⟩ := h
      obtain ⟨C, hm, _⟩ := o.exc _ hk
      obtain ⟨g1, g2⟩ := glb_ok o.toOk hg
      refine (ps_try_only (c := .ref C) (Wout := W) (tb := fun W' => tS ⟨X.K, X.mg, W'⟩ (evSs F G b)) (ts := fun _ _ _ => tS ⟨X.K, X.mg, W⟩ (evSs F G s)) o.stk o.frm ⟨g1, g2, .inl hm⟩ o.takes (fun W' pn xe tk ps => ?_) (fun a oe cls d pn hz hv => ?_)).imp fun D σ H ⟨ρ, h, J, re, rh, q⟩ => ⟨ρ, h, J, re, rh, ?_⟩
      · exact sSs b (X := X.tr pn xe) (W := W') ⟨⟨o.hN, o.nd, o.sc, o.fn, o.calm, ⟨o.call.ok⟩, o.blt, o.glo, o.exc, o.exm⟩, ps, tk, o.stk, o.frm⟩ body hb
      · exact sSu o.toOk s (b0 :: sr) hs
      · have q : PostS (kw X W) J H (catchS yes no (evSs F G s) (evSs F G b ρ h)) D := q
        cases er : evSs F G b ρ h with
        | err ρ' x h' =>
          rw [er] at q
          simp only [catchS] at q
          by_cases hy1 : x.cls ∈ yes
          · rw [if_pos hy1] at q
            intro J' H' σ' cls d e1 re1 rh1 rx
            obtain ⟨⟨C1, rfl, m1⟩, _⟩ := rx
            have m1 : X.mg x.cls = some (.ref C1) := m1
            obtain ⟨C2, C3, m2, m3, ex⟩ := o.exm.m _ _ _ (hyes _ hy1)
            rw [m1] at m2; rw [hm] at m3
            cases m2; cases m3
            exact ⟨true, ex, fun _ a na => ⟨ρ', h', J', re1, rh1, PostS.ext' rh rh1 e1 q⟩, fun z => (by cases z)⟩
          · rw [if_neg hy1] at q
            by_cases hy2 : x.cls ∈ no
            · rw [if_pos hy2] at q
              intro J' H' σ' cls d e1 re1 rh1 rx
              have w := q J' H' σ' cls d e1 re1 rh1 rx
              obtain ⟨⟨C1, rfl, m1⟩, _⟩ := rx
              have m1 : X.mg x.cls = some (.ref C1) := m1
              obtain ⟨C2, C3, m2, m3, ex⟩ := o.exm.m _ _ _ (hno _ hy2)
              rw [m1] at m2; rw [hm] at m3
              cases m2; cases m3
              exact ⟨false, ex, fun z => (by cases z), fun _ => w⟩
            · rw [if_neg hy2] at q; exact q.elim
        | nxt _ _ => rw [er] at q; exact q
        | brk _ _ => rw [er] at q; exact q
        | cnt _ _ => rw [er] at q; exact q
        | ret _ _ => rw [er] at q; exact q
        | bad => rw [er] at q; exact q
    · cases h
  | .tryAs b k yes no i s, X, W, o, x, h => by
    simp only [mS] at h
    split at h
    · rename_i body y n suite hy
      obtain ⟨p, b0, sr, p2, p3, rfl, rfl⟩ := stTryAs_eq hy
      (simp only [Bool.and_eq_true, decide_eq_true_eq, List.all_eq_true] at h)
      (obtain ⟨⟨⟨⟨⟨⟨⟨⟨rfl, hk⟩, hg⟩, hi⟩, hl⟩, hb⟩, hs⟩, hyes⟩, hno⟩ := h)
      obtain ⟨C, hm, _⟩ := o.exc _ hk
      obtain ⟨g1, g2⟩ := glb_ok o.toOk hg
      have hn : X.env.kindOf n = some .local := lcl_ok o.toOk hl
      refine (ps_try_keep (c := .ref C) (Wo := W) (tb := fun W' => tS ⟨X.K, X.mg, W'⟩ (evSs F G b)) (ts := tS ⟨X.K, X.mg, W⟩ (evSs F G s)) o.stk o.frm o.nd (by rw [o.hN]; exact hi) hn ⟨g1, g2, .inl hm⟩ o.takes (fun W' pn xe tk ps => ?_) (fun a pn => sSu o.toOk s (b0 :: sr) hs)).imp fun D σ H ⟨ρ, h, J, re, rh, q⟩ => ⟨ρ, h, J, re, rh, ?_⟩
      · exact sSs b (X := X.tr pn xe) (W := W') ⟨⟨o.hN, o.nd, o.sc, o.fn, o.calm, ⟨o.call.ok⟩, o.blt, o.glo, o.exc, o.exm⟩, ps, tk, o.stk, o.frm⟩ body hb
      · have q : PostS (kw X W) J H (catchAs yes no i (evSs F G s) (evSs F G b ρ h)) D := q
        cases er : evSs F G b ρ h with
        | err ρ' x h' =>
          rw [er] at q
          simp only [catchAs] at q
          intro J' H' σ' cls d e1 re1 rh1 rx
          by_cases hy1 : x.cls ∈ yes
          · rw [if_pos hy1] at q
            obtain ⟨⟨C1, rfl, m1⟩, rd⟩ := rx
            have m1 : X.mg x.cls = some (.ref C1) := m1
            obtain ⟨C2, C3, m2, m3, ex⟩ := o.exm.m _ _ _ (hyes _ hy1)
            have eg := o.exm.g _ _ _ (hyes _ hy1)
            rw [m1] at m2; rw [hm] at m3; rw [m1] at eg
            cases m2; cases m3; cases eg
            exact ⟨true, ex, (fun z => nomatch z), fun _ a na => caught_post rh rh1 re1 e1 na rd q⟩
          · rw [if_neg hy1] at q
            by_cases hy2 : x.cls ∈ no
            · rw [if_pos hy2] at q
              have w := q J' H' σ' cls d e1 re1 rh1 rx
              obtain ⟨⟨C1, rfl, m1⟩, _⟩ := rx
              have m1 : X.mg x.cls = some (.ref C1) := m1
              obtain ⟨C2, C3, m2, m3, ex⟩ := o.exm.m _ _ _ (hno _ hy2)
              rw [m1] at m2; rw [hm] at m3
              cases m2; cases m3
              exact ⟨false, ex, (fun _ => w), fun z => nomatch z⟩
            · rw [if_neg hy2] at q; exact q.elim
        | nxt _ _ => rw [er] at q; exact q
        | brk _ _ => rw [er] at q; exact q
        | cnt _ _ => rw [er] at q; exact q
        | ret _ _ => rw [er] at q; exact q
        | bad => rw [er] at q; exact q
    · cases h
theorem sSs : ∀ (t : Ss) {X : Cx} {W : WX} (o : OkS c F G X W) (xs : List Stmt), mSs c t xs = true → PSs X xs (tS (kw X W) (evSs F G t))
  | .nil, X, W, o, [], h => ss_nil
  | .nil, X, W, o, _ :: _, h => by cases h
  | .cons _ _, X, W, o, [], h => by cases h
  | .cons s ss, X, W, o, x :: xs, h => by
    simp only [mSs, Bool.and_eq_true] at h
    exact ss_cons (sS s o _ h.1) (sSs ss o _ h.2)
end
end
end PV
end

section
set_option maxRecDepth 100000
namespace PV
open L2 PySem PySem.Spec PyProof.Rows

/-! ### a def's end -/
section
variable {K : PySem.W.Frag} {J J' : Jn} {H H' : Hp} {h h' : Hh}
theorem frz_rd {n : Nat} (rh : RH K J h H) : ∀ (k : Nat) (d : D) (v : V), RD K J H d v → (d.frz h n k).rlt n = true → RD K (J.cut n) H (d.frz h n k) v
  | 0, d, v, r, e => r.cut e
  | k + 1, d, v, r, e => by
    have i1 := frz_rd rh (n := n) k
    have i2 : ∀ (ds : List D) (vs : List V), RDs K J H ds vs → D.rlts n (ds.map (D.frz h n k)) = true → RDs K (J.cut n) H (ds.map (D.frz h n k)) vs := by
      intro ds
      induction ds with
      | nil => intro vs r e; cases r; exact .nil
      | cons x xs ih =>
        intro vs r e
        cases r with
        | cons rx rr =>
          simp only [List.map_cons, D.rlts, Bool.and_eq_true] at e
          exact .cons (i1 _ _ rx e.1) (ih _ rr e.2)
    cases d with
    | ref i =>
      simp only [D.frz] at e ⊢
      split at e
      · rename_i hi
        rw [if_pos hi]; exact r.cut e
      · rename_i hi
        rw [if_neg hi]
        cases r with
        | @ref _ a q =>
          obtain ⟨o, u, h1, h2, h3⟩ := rh.at q
          rw [h1] at e ⊢
          cases h3 with
          | @lst ds vs z rr =>
            refine .lst (fun hm => ?_) (fun hm => rh.apart a hm (List.mem_of_getElem? q)) h2 z (i2 _ _ rr e)
            obtain ⟨j, hj⟩ := List.mem_iff_getElem?.mp hm
            have hjn : j < n := by
              have := (List.getElem?_eq_some_iff.mp hj).1
              simp only [List.length_take] at this; omega
            have hj' : J.l[j]? = some a := by
              have hj2 : (J.l.take n)[j]? = some a := hj
              rwa [List.getElem?_take_of_lt hjn] at hj2
            obtain ⟨l1, e1⟩ := List.getElem?_eq_some_iff.mp q
            obtain ⟨l2, e2⟩ := List.getElem?_eq_some_iff.mp hj'
            have := (List.getElem_inj rh.nd).mp (e1.trans e2.symm)
            omega
          | dct z rr => exact absurd (of_decide_eq_true e) hi
    | tup xs =>
      cases r with
      | tup a m q z r => exact .tup (fun hm => a (List.mem_of_mem_take hm)) m q z (i2 _ _ r e)
      | ktup kk z r => exact .ktup kk z (i2 _ _ r e)
    | lst xs =>
      cases r with
      | lst a m q z r => exact .lst (fun hm => a (List.mem_of_mem_take hm)) m q z (i2 _ _ r e)
    | non => exact r.cut e
    | bl b => exact r.cut e
    | int i => exact r.cut e
    | str x => exact r.cut e
    | fz xs => exact r.cut e
    | ftup xs => exact r.cut e
    | exc c => exact r.cut e
    | exf c f d => exact r.cut e
theorem finD_post {f : Bool} {d : D} {h2 : Hh} {Q : VK} (rh : RH K J h H) (p : Post K J H (rD K) (finD f h.length d h2) Q) : ∀ J' H' v, Ext J H J' H' → RH K J' h2 H' → RD K J' H' d v → Q v H' := by
  intro J' H' v e rh' rv
  unfold finD at p
  cases f with
  | false => exact p J' H' v e rh' rv
  | true =>
    simp only [if_true] at p
    split at p
    · rename_i hc
      (simp only [Bool.and_eq_true] at hc)
      have hle : h.length ≤ h2.length := by
        obtain ⟨m, hm, _⟩ := e.pre
        rw [← rh'.len, ← rh.len, hm, List.length_append]; omega
      exact p _ H' v (e.cut rh) (rh'.cut hle hc.2) (frz_rd rh' 4 _ _ rv hc.1)
    · exact p.elim
theorem finR_post {mg : Str → Option Value} {E : XK} {f : Bool} {r : RS} {Q : VK} (rh : RH K J h H) (p : PostX K mg E J H (rD K) (finR f h.length r) Q) : PostS ⟨K, mg, fun c d _ H => E c d H⟩ J H r { nx := fun _ H' => Q .non H', rt := Q } := by
  have back : ∀ {d : D} {h2 : Hh}, PostX K mg E J H (rD K) (finD f h.length d h2) Q → Post K J H (rD K) (finD f h.length d h2) Q := fun {d h2} p => by
    unfold finD at p ⊢
    cases f with
    | false => exact p
    | true =>
      simp only [if_true] at p ⊢
      split
      · rename_i hc; rw [if_pos hc] at p; exact p
      · rename_i hc; rw [if_neg hc] at p; exact p
  cases r with
  | ret d h2 => exact finD_post rh (back p)
  | nxt ρ h2 => exact fun J' H' σ e re rh' => finD_post rh (back p) J' H' .non e rh' .non
  | bad => exact p
  | brk _ _ => exact False.elim p
  | cnt _ _ => exact False.elim p
  | err ρ x h2 => exact fun J' H' σ c d e re rh' rx => p J' H' c d e rh' rx
theorem re_start {N : List Str} {ds : List D} {vs : List V} (r : RDs K J H ds vs) : RE K J H (ds.map some ++ List.replicate (N.length - ds.length) none) (L2.start N vs) := by
  refine ⟨by simp [L2.start, r.length], fun i d q => ?_⟩
  by_cases hi : i < ds.length
  · rw [List.getElem?_append_left (by simpa using hi), List.getElem?_map] at q
    cases hd : ds[i]? with
    | none => rw [hd] at q; cases q
    | some d' =>
      rw [hd] at q; cases q
      obtain ⟨v, h1, h2⟩ := r.get hd
      refine ⟨v, ?_, h2⟩
      have hv : i < vs.length := (List.getElem?_eq_some_iff.mp h1).1
      unfold L2.start
      rw [List.getElem?_append_left (by simpa using hv), List.getElem?_map, h1]; rfl
  · rw [List.getElem?_append_right (by simp; omega)] at q
    rw [List.getElem?_replicate] at q
    split at q <;> cases q
end

/-! ### a def by its body, where no repr is under way -/
section
variable {P : Program} {w : World} {K : PySem.W.Frag} {mg : Str → Option Value} {base : Heap} {params : Arguments} {body : List Stmt} {scope : Scope}
theorem deeper_guards (A : Around) (env : PySem.Env) : (A.deeper env).guards = A.guards := rfl
theorem fnG_of {x : Str} {a : Addr} {fd : FuncData} {N ps : List Str} {k : Nat} {sp : Sp} (F : FunD K x x params body scope [] [] a fd) (S : FnScope N ps scope) (len : ∀ vs H Q E, sp vs H Q E → vs.length = ps.length)
    (hb : ∀ (cd : Value) (A : Around) (out : List PySem.Env) (s : Shared) (H : Hp) (vs : List V) (Q : VK) (E : XK), Room k (A.deeper (envOfC x scope s.heap.objs.size a cd)) → A.guards = some [] → sp vs H Q E →
      ∃ t, PSs (cxOf (L2.CX P w) P w K mg base N x scope a cd A out s H E) body t ∧ t { nx := fun _ H' => Q .non H', rt := Q } (L2.start N vs) H) : FnG P w K mg base (k + 1) a fd ps sp := by
  (obtain ⟨oc, od, dV, kV, doc, pm, an, cdv, ct, osl, rfl, lk, hcd, _, _⟩ := F.ex)
  refine ⟨len, fun {A out s H args us vs Q E} hr hgd e0 hbd r hsp => ?_⟩
  have inK : K.In s.heap := e0.mod.kin.keeps fun b o e => (e0.bs b o e).1
  have noLim : s.heap.NoLimit := e0.mod.nolimit.keeps fun b o e => (e0.bs b o e).1
  refine codeAny_call_function hr.depth (inK _ _ lk) rfl S.co S.gen rfl (PySem.W.codeRec_of inK hcd) (hbd _ _ _ _ ?_)
  refine wpAny_newFunctionEnv_cells S.kind (fun y hy => ?_) fun env he s1 x1 => ?_
  · have hy1 := (List.of_mem_zip (show (y.1, y.2) ∈ ps.zip us from hy)).1
    cases S.par y.1 hy1 with
    | inl q => exact .inl q
    | inr q => exact .inr ⟨q, PySem.W.cellsFrom_some _ _ _ (.inl q)⟩
  · subst he
    refine ⟨noLim.keeps x1.toInCall.keep, codeAny_func ?_⟩
    obtain ⟨t, ht, hq⟩ := hb cdv A out s H vs Q E (hr.deeper _) hgd hsp
    have I : L2.Inv (cxOf (L2.CX P w) P w K mg base N x scope a cdv A out s H E) [] (L2.start N vs) H s1 := inv_start S hr.hd e0 (len _ _ _ _ hsp) r x1
    (refine wpAny_mono (ht.run [] s1 (L2.start N vs) H _ I hq) (fun fl s' hs => ?_) fun e s' hs => hs)
    cases fl with
    | ret u => obtain ⟨v, σ', H', I', rv, q⟩ := hs; exact ⟨v, H', I'.os, I'.bare, I'.base, I'.hok, rv, q⟩
    | next => obtain ⟨σ', H', I', q⟩ := hs; exact ⟨.non, H', I'.os, I'.bare, I'.base, I'.hok, rfl, q⟩
    | brk => obtain ⟨_, _, _, q⟩ := hs; exact q.elim
    | cont => obtain ⟨_, _, _, q⟩ := hs; exact q.elim
end

/-! ### the table of the defs -/
/-- what is known of a def of the table: where it stands, its text -/
structure DefOk (K : PySem.W.Frag) (mg : Str → Option Value) (bs gn xs : List Str) (xm : Xm) (T : List Fn) (fn : Fn) (params : Arguments) (body : List Stmt) (scope : Scope) : Prop where
  sc : FnScope fn.N fn.P scope
  ok : mSs ⟨fn.N, scope, fun _ => true, bs, T, gn, xs, xm⟩ fn.body body = true
  ex : ∃ a fd, FunD K fn.name fn.name params body scope [] [] a fd ∧ mg fn.name = some (.ref a) ∧ L2.Binds K fd fn.P [] ∧ ∀ q ∈ fn.kw, KwOk K fd fn.P q.1 q.2.1 q.2.2
section
variable {P : Program} {w : World} {K : PySem.W.Frag} {mg : Str → Option Value} {base : Heap} {T : List Fn} {bs gn xs : List Str} {xm : Xm} {G : List D}
def TabAt (P : Program) (w : World) (K : PySem.W.Frag) (mg : Str → Option Value) (base : Heap) (T : List Fn) (G : List D) (k : Nat) : Prop := ∀ (f : Nat) (fn : Fn), T[f]? = some fn →
    ∃ a fd, mg fn.name = some (.ref a) ∧ PySem.W.keepIn K (.ref a) = true ∧ FnG P w K mg base k a fd fn.P (spF K mg (callN T G k) f fn.P.length) ∧ L2.Binds K fd fn.P [] ∧ ∀ q ∈ fn.kw, KwOk K fd fn.P q.1 q.2.1 q.2.2
/-- one def more deep -/
theorem def_step (hb : ∀ x ∈ bs, mg x = none) (hg : ∀ (i : Nat) (x : Str) (d : D), gn[i]? = some x → G[i]? = some d → ∃ v u, mg x = some u ∧ L2.RelV v u ∧ ∀ J H, RD K J H d v) {k f : Nat} {fn : Fn} {params : Arguments} {body : List Stmt} {scope : Scope} {a : Addr} {fd : FuncData}
    (hx : ∀ x ∈ xs, ∃ C, mg x = some (.ref C) ∧ PySem.W.excIn K C He.veBase "ValueError.__new__" = true ∧ PySem.W.keepIn K (.ref C) = true ∧ PySem.W.subIn K (.ref C) (.type "BaseException") = some true ∧ PySem.W.typeIn K (.ref C) = some (.type "type")) (hm : XF K mg xm)
    (IH : TabAt P w K mg base T G k) (hf : T[f]? = some fn) (sc : FnScope fn.N fn.P scope) (ok : mSs ⟨fn.N, scope, fun _ => true, bs, T, gn, xs, xm⟩ fn.body body = true) (fu : FunD K fn.name fn.name params body scope [] [] a fd) :
    FnG P w K mg base (k + 1) a fd fn.P (spF K mg (callN T G (k + 1)) f fn.P.length) := by
  unfold TabAt at IH
  refine fnG_of fu sc (fun vs H Q E h => h.1) (fun cdv A outer s H vs Q E hr hgd hsp => ⟨tS ⟨K, mg, fun c d _ H => E c d H⟩ (evSs (callN T G k) G fn.body), ?_, ?_⟩)
  · exact sSs fn.body (c := ⟨fn.N, scope, fun _ => true, bs, T, gn, xs, xm⟩) (X := cxOf (L2.CX P w) P w K mg base fn.N fn.name scope a cdv A outer s H E) (W := fun c d _ H => E c d H) ⟨⟨rfl, sc.nd, rfl, rfl, rfl, ⟨k, hr, hgd, IH⟩, hb, hg, fun x hxs => let ⟨C, m1, m2, m3, m4, m5⟩ := hx x hxs; ⟨C, m1, m2, m3, raises_own m4 m5⟩, hm⟩, passes_of rfl, takes_of rfl rfl rfl rfl, rfl, rfl⟩ body ok
  · obtain ⟨hl, J, h, ds, rs, rh, q⟩ := hsp
    have q : PostX K mg E J H (rD K) (match T[f]? with
      | none => .bad
      | some fn => if ds.length = fn.P.length then finR fn.frz h.length (evSs (callN T G k) G fn.body (ds.map some ++ List.replicate (fn.N.length - ds.length) none) h) else .bad) Q := q
    rw [hf] at q
    dsimp only at q
    rw [if_pos (by rw [rs.length]; exact hl)] at q
    exact ⟨_, h, J, re_start rs, rh, finR_post rh q⟩
theorem tab_ok (hT : ∀ (f : Nat) (fn : Fn), T[f]? = some fn → ∃ params body scope, DefOk K mg bs gn xs xm T fn params body scope) (hb : ∀ x ∈ bs, mg x = none)
    (hg : ∀ (i : Nat) (x : Str) (d : D), gn[i]? = some x → G[i]? = some d → ∃ v u, mg x = some u ∧ L2.RelV v u ∧ ∀ J H, RD K J H d v)
    (hx : ∀ x ∈ xs, ∃ C, mg x = some (.ref C) ∧ PySem.W.excIn K C He.veBase "ValueError.__new__" = true ∧ PySem.W.keepIn K (.ref C) = true ∧ PySem.W.subIn K (.ref C) (.type "BaseException") = some true ∧ PySem.W.typeIn K (.ref C) = some (.type "type")) (hm : XF K mg xm) : ∀ (k : Nat), TabAt P w K mg base T G k
  | 0, f, fn, hf => by
    obtain ⟨params, body, scope, d⟩ := hT f fn hf
    obtain ⟨a, fd, fu, hma, hbd, hkw⟩ := d.ex
    refine ⟨a, fd, hma, fu.kp, ⟨fun vs H Q E h => h.1, fun {A out s H args us vs Q E} hr hgd e0 hb' r hsp => ?_⟩, hbd, hkw⟩
    obtain ⟨_, J, h, ds, _, _, q⟩ := hsp
    exact False.elim q
  | k + 1, f, fn, hf => by
    obtain ⟨params, body, scope, d⟩ := hT f fn hf
    obtain ⟨a, fd, fu, hma, hbd, hkw⟩ := d.ex
    exact ⟨a, fd, hma, fu.kp, def_step hb hg hx hm (tab_ok hT hb hg hx hm k) hf d.sc d.ok fu, hbd, hkw⟩
/-- a call with keywords -/
theorem kw_mk {x qual : Str} {params : Arguments} {body : List Stmt} {scope : Scope} {a : Addr} {fd : FuncData} {ps : List Str} {n : Nat} {ks : List Str} {pm : List Nat} (fu : FunD K x qual params body scope [] [] a fd) (hl : pm.length = ps.length)
    (h : ∀ (kV doc pmv : Value) (an : Option Addr) (cdv ct : Value) (us ws : List Value), us.length = n → ws.length = ks.length → bindArgs (PySem.W.fnOf x qual params body scope .none kV doc pmv an cdv ct) ⟨us, ks.zip ws⟩ = pure (ps.zip (pmD .none pm us ws))) : KwOk K fd ps n ks pm := by
  obtain ⟨oc, od, dV, kV, doc, pmv, an, cdv, ct, osl, rfl, lk, hcd, hD, hK⟩ := fu.ex
  (rcases hD with ⟨_, rfl⟩ | ⟨e, _⟩)
  · exact ⟨fun s us ws _ h1 h2 => .of_eq (h kV doc pmv an cdv ct us ws h1 h2), hl⟩
  · exact absurd rfl e
/-- the law: what the evaluator says of it holds -/
theorem law_sp {f n k : Nat} {fn : Fn} (hf : T[f]? = some fn) (hp : fn.P.length = 1) (hev : ∀ ns : List Int, ns.length ≤ n → ∃ h, callN T G k f [.fz (ns.map D.int)] [] = .ok (.bl true) h) (hn : n ≤ sizeLine) (H : Hp) (a : Addr) (ns : List Int) (hl : ns.length ≤ n) (hO : Only H) (hS : SqL K H a (ns.map V.int)) :
    spF K mg (callN T G k) f fn.P.length [.ref a] H (fun v _ => v = .bl true) fun _ _ _ => False := by
  refine ⟨hp.symm, ⟨[], []⟩, [], [.fz (ns.map D.int)], .cons ?_ .nil, ⟨List.nodup_nil, rfl, fun i o e => by simp at e, fun a ha => (by cases ha), fun a ha => (by cases ha)⟩, ?_⟩
  · have rs : ∀ ns : List Int, RDs K ⟨[], []⟩ H (ns.map D.int) (ns.map V.int) := by
      intro ns
      induction ns with
      | nil => exact .nil
      | cons i r ih => exact .cons (.int i) ih
    have hz : (ns.map V.int).length ≤ sizeLine := by rw [List.length_map]; omega
    rcases hS with hS | hS
    · rcases hO a with e | ⟨o, xs, e⟩
      · rcases hS with q | ⟨_, q⟩ <;> rw [e] at q <;> cases q
      · rcases hS with q | ⟨o', q⟩
        · rw [e] at q; cases q
        · exact .fz (fun hm => by cases hm) (fun hm => by cases hm) q hz (rs ns)
    · exact .kfz hS hz (rs ns)
  · obtain ⟨h, e⟩ := hev ns hl
    rw [e]
    intro J' H' b _ _ rv
    cases rv; rfl

/-! ### the law's call -/
theorem law_g {mb : Str → Option Value} {k : Nat} {fa a : Addr} {fd : FuncData} {x : Str} {sp : Sp} {s1 : Shared} {vs : List Value} {ns : List Int}
    (kx : K.In s1.heap) (hm : s1.heap.Ns mainGlobals mg) (hbn : s1.heap.Ns builtinsNs mb) (hbb : ∀ y : Str, y ≠ "__name__" → mb y = bootBuiltins y) (hlim : s1.heap.NoLimit) (hgn : s1.gens = #[])
    (ha : s1.heap.get? a = some { cls := .type "list", data := .seq vs.toArray }) (hi : IntsAre vs ns) (hl : ns.length ≤ sizeLine) (hr : Room k callerA)
    (hF : ∀ base : Heap, K.In base → base.Ns mainGlobals mg → FnG P w K mg base k fa fd [x] sp) (hbd : ∀ (s : Shared) (u : Value), BindsTo s fd ⟨[u], []⟩ [(x, u)])
    (hsp : ∀ H : Hp, Only H → SqL K H a (ns.map V.int) → sp [.ref a] H (fun v _ => v = .bl true) E0) :
    codeAny (model P w) callerA (.call (.ref fa) ⟨[.ref a], []⟩) (fun r s' => r = .ok (.ret (.bool true)) ∧ OldK s1.heap s'.heap ∧ s'.os = s1.os ∧ AllBare s'.gens) s1 := by
  have rv : Vals (ns.map V.int) vs := vals_ints hi
  have hlen := hi.length
  have main : ∀ H : Hp, Only H → SqL K H a (ns.map V.int) → HOk P w H s1.heap → (∀ b, H b ≠ none → b = a ∧ K.lookup a = none) →
      codeAny (model P w) callerA (.call (.ref fa) ⟨[.ref a], []⟩) (fun r s' => r = .ok (.ret (.bool true)) ∧ OldK s1.heap s'.heap ∧ s'.os = s1.os ∧ AllBare s'.gens) s1 := by
    intro H only seq ok own
    have keep : ∀ {b : Addr} {o : Obj}, s1.heap.get? b = some o → H b = none → (hidT s1.heap H).get? b = some o := fun e n => hidT_get e n
    have dictFree : ∀ {b : Addr} {o : Obj} {es : Array DictEntry} {n : Nat}, s1.heap.get? b = some o → o.data = .dict es n → H b = none := by
      intro b o es n e d
      cases hq : H b with
      | none => rfl
      | some u =>
        obtain rfl := (own b (by rw [hq]; exact Option.some_ne_none u)).1
        rw [ha] at e; cases e; cases d
    have names : ∀ {b : Addr} {m : Str → Option Value}, s1.heap.Ns b m → (hidT s1.heap H).Ns b m := by
      rintro b m ⟨o, es, n, e, d, q⟩
      exact ⟨o, es, n, keep e (dictFree e d), d, q⟩
    have kIn : K.In (hidT s1.heap H) := by
      intro b o e
      refine keep (kx b o e) ?_
      cases hq : H b with
      | none => rfl
      | some u =>
        obtain ⟨rfl, hk⟩ := own b (by rw [hq]; exact Option.some_ne_none u)
        rw [hk] at e; cases e
    obtain ⟨mc, c1, c2⟩ := hlim
    have env : Env0 P w K mg (hidT s1.heap H) callerA [] s1 H :=
      ⟨rfl, ⟨kIn, names hm, ⟨mb, names hbn, hbb⟩, ⟨mc, names c1, c2⟩⟩, fun b o e => of_hidT e, Nat.le_of_eq (hidT_size _ _), trivial, fun b hb => (List.not_mem_nil hb).elim, ok, .of_eq hgn⟩
    refine codeAny_mono ((hF _ kIn (names hm)).go (us := [.ref a]) (vs := [.ref a]) hr rfl env (hbd s1 (.ref a)) (.cons rfl .nil) (hsp H only seq)) fun r s' hq => ?_
    cases r with
    | error e =>
      obtain ⟨_, _, _, _, _, _, _, _, _, _, _, _, z⟩ := hq
      exact z.elim
    | ok fl =>
      cases fl with
      | next => exact False.elim hq
      | brk => exact False.elim hq
      | cont => exact False.elim hq
      | ret u =>
        obtain ⟨v, H', os, bare, un, ok', ru, rfl⟩ := hq
        cases (show u = Value.bool true from ru)
        (refine ⟨rfl, OldK.of_keep fun b o e => ?_, os, bare⟩)
        cases hb : H b with
        | none => exact un.keep b o e hb (fun z => List.not_mem_nil z) (by simp)
        | some u =>
          rcases only b with z | ⟨ob, xs, z⟩
          · rw [hb] at z; cases z
          · have e1 := (ok b _ z).1
            have e2 := (ok' b _ (un.frzs b ob _ z)).1
            rw [e] at e1; cases e1; exact e2
  cases hk : K.lookup a with
  | some o =>
    have e := kx a o hk
    rw [ha] at e; cases e
    exact main (fun _ => none) (fun _ => .inl rfl) (.inr ⟨_, vs.toArray, _, hk, rfl, rfl, rfl, by simpa [hlen] using hl, by simpa using rv⟩) (fun b u z => by cases z) fun b z => absurd rfl z
  | none =>
    let H : Hp := upd (fun _ => none) a (.frz { cls := .type "list", data := .seq vs.toArray } (.lst (ns.map V.int)))
    have ne : ∀ {b : Addr}, b ≠ a → H b = none := fun hb => upd_ne hb
    refine main H (fun b => ?_) (.inl (.inr ⟨_, upd_same⟩)) (fun b u z => ?_) fun b z => ?_
    · by_cases hb : b = a
      · subst hb; exact .inr ⟨_, _, upd_same⟩
      · exact .inl (ne hb)
    · by_cases hb : b = a
      · subst hb
        have z' : some _ = some u := upd_same.symm.trans z
        cases z'
        (exact ⟨ha, by rw [List.length_map]; exact hl, vs, _, rv, ha⟩)
      · rw [ne hb] at z; cases z
    · by_cases hb : b = a
      · exact ⟨hb, hk⟩
      · exact absurd (ne hb) z
end
/-- a law over the evaluator -/
theorem walk_g {l : PySem.W.OpenLaw} {n k : Nat} {q : Program} {loose : List Str} {XP : (Str → Option Value) → Heap → Prop} {YP : World → Heap → Prop} {d : DefRec} {x : Str}
    (hn : l.most = some n) (hn2 : n ≤ sizeLine)
    (hdf : d.params.defaults = []) (hr : Room k callerA)
    (hF : ∀ (w : World) (mg : Str → Option Value) (fa : Addr) (h : Heap), YP w h → h.Ns mainGlobals mg → mg d.name = some (.ref fa) →
      ∃ (K : PySem.W.Frag) (fd : FuncData) (sp : Sp), K.In h ∧
        (∀ (s : Shared) (u : Value), BindsTo s fd ⟨[u], []⟩ [(x, u)]) ∧
        (∀ (H : Hp) (a : Addr) (ns : List Int), ns.length ≤ n → Only H → SqL K H a (ns.map V.int) → sp [.ref a] H (fun v _ => v = .bl true) E0) ∧
        ∀ base : Heap, K.In base → base.Ns mainGlobals mg → FnG l.prog w K mg base k fa fd [x] sp) :
    (PySem.W.WalkO q loose XP YP l.row.toRowW d [] (fun f vs => PySem.call f vs)) := by
  refine Att.attach_call hn hdf fun w t0 t1 mg mb fa o pm cd doc a vs ns W Y ho hd hcd hmg hobj hints hlen hgn => ?_
  obtain ⟨K, fd, sp, kx, hbd, hsp, go⟩ := hF w mg fa _ Y W.T.g hmg
  exact law_g kx W.T.g W.T.b W.T.builtins W.T.nolimit hgn hobj hints (Nat.le_trans hlen hn2) hr go hbd fun H only seq => hsp H a ns hlen only seq
end PV
end

section
/-! PvU: rules for running the evaluator by simp. -/
namespace PV
open PySem L2
section
variable {α β : Type} {F : Fns} {G : List D} {ρ : Env} {h : Hh}
/-- locks a continuation: simp leaves it as it stands until its value is there -/
structure Lk {γ : Type} (f : γ) : Type where
  mk ::
def R.bnd (r : R α) (f : α → Hh → R β) (_ : Lk f) : R β := r.bind f
def R.thn (r : R α) (f : α → Hh → RS) (_ : Lk f) : RS := r.then_ f
def RS.thn (r : RS) (f : Env → Hh → RS) (_ : Lk f) : RS := r.then_ f
@[simp] theorem bnd_ok (a : α) (h : Hh) (f : α → Hh → R β) (l : Lk f) : (R.ok a h).bnd f l = f a h := id rfl
@[simp] theorem bnd_bad (f : α → Hh → R β) (l : Lk f) : (R.bad : R α).bnd f l = .bad := id rfl
@[simp] theorem thn_ok (a : α) (h : Hh) (f : α → Hh → RS) (l : Lk f) : (R.ok a h).thn f l = f a h := id rfl
@[simp] theorem thn_bad (f : α → Hh → RS) (l : Lk f) : (R.bad : R α).thn f l = .bad := id rfl
@[simp] theorem sthn_nxt (ρ : Env) (h : Hh) (f : Env → Hh → RS) (l : Lk f) : (RS.nxt ρ h).thn f l = f ρ h := id rfl
@[simp] theorem sthn_ret (d : D) (h : Hh) (f : Env → Hh → RS) (l : Lk f) : (RS.ret d h).thn f l = .ret d h := id rfl
@[simp] theorem sthn_bad (f : Env → Hh → RS) (l : Lk f) : RS.bad.thn f l = .bad := id rfl
@[simp] theorem sthn_brk (ρ : Env) (h : Hh) (f : Env → Hh → RS) (l : Lk f) : (RS.brk ρ h).thn f l = .brk ρ h := id rfl
@[simp] theorem sthn_cnt (ρ : Env) (h : Hh) (f : Env → Hh → RS) (l : Lk f) : (RS.cnt ρ h).thn f l = .cnt ρ h := id rfl
@[simp] theorem bnd_ite {c : Prop} [Decidable c] {a b : R α} {f : α → Hh → R β} {l : Lk f} : (if c then a else b).bnd f l = if c then a.bnd f l else b.bnd f l := by split <;> rfl
@[simp] theorem thn_ite {c : Prop} [Decidable c] {a b : R α} {f : α → Hh → RS} {l : Lk f} : (if c then a else b).thn f l = if c then a.thn f l else b.thn f l := by split <;> rfl
@[simp] theorem sthn_ite {c : Prop} [Decidable c] {a b : RS} {f : Env → Hh → RS} {l : Lk f} : (if c then a else b).thn f l = if c then a.thn f l else b.thn f l := by split <;> rfl
@[simp] theorem finR_ite {c : Prop} [Decidable c] {a b : RS} {g : Bool} {n : Nat} : finR g n (if c then a else b) = if c then finR g n a else finR g n b := by split <;> rfl
@[simp] theorem finR_ret (n : Nat) (d : D) (h : Hh) : finR false n (.ret d h) = .ok d h := id rfl
@[simp] theorem finR_err (g : Bool) (n : Nat) (ρ : Env) (x : Xc) (h : Hh) : finR g n (.err ρ x h) = .err x h := id rfl
@[simp] theorem sthn_err (ρ : Env) (x : Xc) (h : Hh) (f : Env → Hh → RS) (l : Lk f) : (RS.err ρ x h).thn f l = .err ρ x h := id rfl
@[simp] theorem finR_nxt (n : Nat) (ρ : Env) (h : Hh) : finR false n (.nxt ρ h) = .ok .non h := id rfl
/-! expressions -/
theorem opt_map {f : α → β} (o : Option α) (h : Hh) : R.opt (o.map f) h = (R.opt o h).bind fun a h => .ok (f a) h := by cases o <;> rfl
@[simp] theorem v_var (i : Nat) : (evE F G (.var i)).v ρ h = (match ρ[i]? with | some (some d) => R.ok d h | _ => R.bad) := id rfl
@[simp] theorem v_con (d : D) : (evE F G (.con d)).v ρ h = .ok d h := id rfl
@[simp] theorem v_glo (i : Nat) : (evE F G (.glo i)).v ρ h = R.opt G[i]? h := id rfl
@[simp] theorem t_miss : (evE F G .miss).t ρ h = .ok true h := id rfl
@[simp] theorem v_tup' (es : Es) : (evE F G (.tup es)).v ρ h = ((evEs F G es).l ρ h).bnd (fun xs h1 => if sizeOk xs.length then .ok (.tup xs) h1 else .bad) ⟨⟩ := id rfl
@[simp] theorem v_ftup' (es : Es) : (evE F G (.ftup es)).v ρ h = ((evEs F G es).l ρ h).bnd (fun xs h1 => if sizeOk xs.length then .ok (.ftup xs) h1 else .bad) ⟨⟩ := id rfl
@[simp] theorem v_lst' (es : Es) : (evE F G (.lst es)).v ρ h = ((evEs F G es).l ρ h).bnd (fun xs h1 => if sizeOk xs.length then .ok (.lst xs) h1 else .bad) ⟨⟩ := id rfl
@[simp] theorem v_new (e : E) : (evE F G (.new e)).v ρ h = ((evE F G e).v ρ h).bnd newObj ⟨⟩ := id rfl
@[simp] theorem v_bin (o : BOp) (a b : E) : (evE F G (.bin o a b)).v ρ h = ((evE F G a).v ρ h).bnd (fun x h1 => ((evE F G b).v ρ h1).bnd (fun y h2 => R.opt (opBin o h2 x y) h2) ⟨⟩) ⟨⟩ := id rfl
@[simp] theorem v_neg (a : E) : (evE F G (.neg a)).v ρ h = ((evE F G a).v ρ h).bnd (fun x h1 => R.opt (x.isInt.map fun i => .int (-i)) h1) ⟨⟩ := id rfl
@[simp] theorem v_cmp (o : COp) (a b : E) : (evE F G (.cmp o a b)).v ρ h = ((evE F G a).v ρ h).bnd (fun x h1 => ((evE F G b).v ρ h1).bnd (fun y h2 => (R.opt (opCmp o h2 x y) h2).bnd (fun t h3 => .ok (.bl t) h3) ⟨⟩) ⟨⟩) ⟨⟩ := by
  show _ = ((evE F G a).v ρ h).bind fun x h1 => ((evE F G b).v ρ h1).bind fun y h2 => (R.opt (opCmp o h2 x y) h2).bind fun t h3 => .ok (D.bl t) h3
  simp only [← opt_map]; rfl
@[simp] theorem v_and (a : E) (r : Es) : (evE F G (.and a r)).v ρ h = ((evE F G a).v ρ h).bnd (fun x h1 => (vBl x h1).bnd (fun t h2 => if t then (evEs F G r).an ρ h2 else .ok (.bl false) h2) ⟨⟩) ⟨⟩ := id rfl
@[simp] theorem v_or (a : E) (r : Es) : (evE F G (.or a r)).v ρ h = ((evE F G a).v ρ h).bnd (fun x h1 => (vBl x h1).bnd (fun t h2 => if t then .ok (.bl true) h2 else (evEs F G r).on ρ h2) ⟨⟩) ⟨⟩ := id rfl
@[simp] theorem v_not (a : E) : (evE F G (.not a)).v ρ h = ((evE F G a).v ρ h).bnd (fun x h1 => (vBl x h1).bnd (fun t h2 => .ok (.bl (!t)) h2) ⟨⟩) ⟨⟩ := id rfl
@[simp] theorem v_ite (c a b : E) : (evE F G (.ite c a b)).v ρ h = ((evE F G c).t ρ h).bnd (fun t h1 => if t then (evE F G a).v ρ h1 else (evE F G b).v ρ h1) ⟨⟩ := id rfl
@[simp] theorem v_idx (a i : E) : (evE F G (.idx a i)).v ρ h = ((evE F G a).v ρ h).bnd (fun x h1 => ((evE F G i).v ρ h1).bnd (fun y h2 => R.opt (opIdx h2 x y) h2) ⟨⟩) ⟨⟩ := id rfl
@[simp] theorem v_slc (a lo hi : E) : (evE F G (.slc a lo hi)).v ρ h = ((evE F G a).v ρ h).bnd (fun x h1 => (vPart lo.isMiss (evE F G lo) ρ h1).bnd (fun l h2 => (vPart hi.isMiss (evE F G hi) ρ h2).bnd (fun u h3 => R.opt (opSlc h3 x l u) h3) ⟨⟩) ⟨⟩) ⟨⟩ := id rfl
@[simp] theorem v_call (f : Nat) (es : Es) : (evE F G (.call f es)).v ρ h = ((evEs F G es).l ρ h).bnd (fun xs h1 => F f xs h1) ⟨⟩ := id rfl
@[simp] theorem v_callK (f : Nat) (es kes : Es) (ks : List Nat) : (evE F G (.callK f es kes ks)).v ρ h = ((evEs F G es).l ρ h).bnd (fun xs h1 => ((evEs F G kes).l ρ h1).bnd (fun ys h2 => F f (pmD .non ks xs ys) h2) ⟨⟩) ⟨⟩ := id rfl
@[simp] theorem v_bf (f : Bf) (es : Es) : (evE F G (.bf f es)).v ρ h = ((evEs F G es).l ρ h).bnd (fun xs h1 => R.opt (opBf f h1 xs) h1) ⟨⟩ := id rfl
@[simp] theorem v_isi (a : E) (t : Ty) : (evE F G (.isi a t)).v ρ h = ((evE F G a).v ρ h).bnd (fun x h1 => if x.isF then .bad else .ok (.bl (opIsi t h1 x)) h1) ⟨⟩ := id rfl
@[simp] theorem v_chain (o p : COp) (a b c : E) : (evE F G (.chain o p a b c)).v ρ h = ((evE F G a).v ρ h).bnd (fun x h1 => ((evE F G b).v ρ h1).bnd (fun y h2 => (R.opt (opCmp o h2 x y) h2).bnd (fun t h3 =>
      if t then ((evE F G c).v ρ h3).bnd (fun z h4 => (R.opt (opCmp p h4 y z) h4).bnd (fun t h5 => .ok (.bl t) h5) ⟨⟩) ⟨⟩ else .ok (.bl false) h3) ⟨⟩) ⟨⟩) ⟨⟩ := by
  show _ = ((evE F G a).v ρ h).bind fun x h1 => ((evE F G b).v ρ h1).bind fun y h2 => (R.opt (opCmp o h2 x y) h2).bind fun t h3 =>
      if t then ((evE F G c).v ρ h3).bind fun z h4 => (R.opt (opCmp p h4 y z) h4).bind fun t h5 => .ok (D.bl t) h5 else .ok (D.bl false) h3
  simp only [← opt_map]; rfl
@[simp] theorem v_lcc (t : Tg) (it : I) (c e : E) : (evE F G (.lc t it c e)).v ρ h = (evI F G it ρ h).bnd (fun s h1 => if sizeOk s.items.length then lcLoop s.good (lcTurn t (evE F G c) (evE F G e) ρ) s.items [] h1 else .bad) ⟨⟩ := id rfl
@[simp] theorem v_tenum (a : E) : (evE F G (.tenum a)).v ρ h = ((evE F G a).v ρ h).bnd (fun x h1 => R.opt (tenumOp x) h1) ⟨⟩ := id rfl
/-! tests -/
@[simp] theorem t_and (a : E) (r : Es) : (evE F G (.and a r)).t ρ h = ((evE F G a).t ρ h).bnd (fun t h1 => if t then (evEs F G r).at_ ρ h1 else .ok false h1) ⟨⟩ := id rfl
@[simp] theorem t_or (a : E) (r : Es) : (evE F G (.or a r)).t ρ h = ((evE F G a).t ρ h).bnd (fun t h1 => if t then .ok true h1 else (evEs F G r).ot ρ h1) ⟨⟩ := id rfl
@[simp] theorem t_not (a : E) : (evE F G (.not a)).t ρ h = ((evE F G a).t ρ h).bnd (fun t h1 => .ok (!t) h1) ⟨⟩ := id rfl
@[simp] theorem t_ite (c a b : E) : (evE F G (.ite c a b)).t ρ h = ((evE F G c).t ρ h).bnd (fun t h1 => if t then (evE F G a).t ρ h1 else (evE F G b).t ρ h1) ⟨⟩ := id rfl
theorem t_cmp0 (o : COp) (a b : E) : (evE F G (.cmp o a b)).t ρ h = ((evE F G a).v ρ h).bind fun x h1 => ((evE F G b).v ρ h1).bind fun y h2 => R.opt (opCmp o h2 x y) h2 := by
  show R.bind (R.bind ((evE F G a).v ρ h) fun x h1 => R.bind ((evE F G b).v ρ h1) fun y h2 => R.opt ((opCmp o h2 x y).map D.bl) h2) _ = _
  rw [R.bind_assoc]
  congr 1; funext x h1
  rw [R.bind_assoc]
  congr 1; funext y h2
  cases opCmp o h2 x y <;> rfl
@[simp] theorem t_cmp (o : COp) (a b : E) : (evE F G (.cmp o a b)).t ρ h = ((evE F G a).v ρ h).bnd (fun x h1 => ((evE F G b).v ρ h1).bnd (fun y h2 => R.opt (opCmp o h2 x y) h2) ⟨⟩) ⟨⟩ := t_cmp0 o a b
theorem t_isi0 (a : E) (t : Ty) : (evE F G (.isi a t)).t ρ h = ((evE F G a).v ρ h).bind fun x h1 => if x.isF then .bad else .ok (opIsi t h1 x) h1 := by
  show R.bind (R.bind ((evE F G a).v ρ h) fun x h1 => if x.isF then .bad else .ok (D.bl (opIsi t h1 x)) h1) _ = _
  rw [R.bind_assoc]
  congr 1; funext x h1
  split <;> rfl
@[simp] theorem t_isi (a : E) (t : Ty) : (evE F G (.isi a t)).t ρ h = ((evE F G a).v ρ h).bnd (fun x h1 => if x.isF then .bad else .ok (opIsi t h1 x) h1) ⟨⟩ := t_isi0 a t
@[simp] theorem v_isi2 (a : E) : (evE F G (.isi2 a)).v ρ h = ((evE F G a).v ρ h).bnd (fun x h1 => if x.isF then .bad else .ok (.bl (isi2Op h1 x)) h1) ⟨⟩ := id rfl
@[simp] theorem v_isx (a : E) (k : Str) (yes no : List Str) : (evE F G (.isx a k yes no)).v ρ h = ((evE F G a).v ρ h).bnd (fun x h1 => R.opt (isxOp yes no x) h1) ⟨⟩ := id rfl
@[simp] theorem v_fld (a : E) (f : Str) (ks : List Str) : (evE F G (.fld a f ks)).v ρ h = ((evE F G a).v ρ h).bnd (fun x h1 => R.opt (fldOp f ks x) h1) ⟨⟩ := id rfl
theorem t_isi2_0 (a : E) : (evE F G (.isi2 a)).t ρ h = ((evE F G a).v ρ h).bind fun x h1 => if x.isF then .bad else .ok (isi2Op h1 x) h1 := by
  show R.bind (R.bind ((evE F G a).v ρ h) fun x h1 => if x.isF then .bad else .ok (D.bl (isi2Op h1 x)) h1) _ = _
  rw [R.bind_assoc]
  congr 1; funext x h1
  split <;> rfl
@[simp] theorem t_isi2 (a : E) : (evE F G (.isi2 a)).t ρ h = ((evE F G a).v ρ h).bnd (fun x h1 => if x.isF then .bad else .ok (isi2Op h1 x) h1) ⟨⟩ := t_isi2_0 a
@[simp] theorem t_isx (a : E) (k : Str) (yes no : List Str) : (evE F G (.isx a k yes no)).t ρ h = ((evE F G (.isx a k yes no)).v ρ h).bnd (fun x h1 => R.opt (x.tru h1) h1) ⟨⟩ := id rfl
@[simp] theorem t_var (i : Nat) : (evE F G (.var i)).t ρ h = ((evE F G (.var i)).v ρ h).bnd (fun x h1 => R.opt (x.tru h1) h1) ⟨⟩ := id rfl
@[simp] theorem t_con (d : D) : (evE F G (.con d)).t ρ h = R.opt (d.tru h) h := id rfl
@[simp] theorem t_idx (a i : E) : (evE F G (.idx a i)).t ρ h = ((evE F G (.idx a i)).v ρ h).bnd (fun x h1 => R.opt (x.tru h1) h1) ⟨⟩ := id rfl
@[simp] theorem t_call (f : Nat) (es : Es) : (evE F G (.call f es)).t ρ h = ((evE F G (.call f es)).v ρ h).bnd (fun x h1 => R.opt (x.tru h1) h1) ⟨⟩ := id rfl
@[simp] theorem t_callK (f : Nat) (es kes : Es) (ks : List Nat) : (evE F G (.callK f es kes ks)).t ρ h = ((evE F G (.callK f es kes ks)).v ρ h).bnd (fun x h1 => R.opt (x.tru h1) h1) ⟨⟩ := id rfl
@[simp] theorem t_bf (f : Bf) (es : Es) : (evE F G (.bf f es)).t ρ h = ((evE F G (.bf f es)).v ρ h).bnd (fun x h1 => R.opt (x.tru h1) h1) ⟨⟩ := id rfl
@[simp] theorem t_bin (o : BOp) (a b : E) : (evE F G (.bin o a b)).t ρ h = ((evE F G (.bin o a b)).v ρ h).bnd (fun x h1 => R.opt (x.tru h1) h1) ⟨⟩ := id rfl
@[simp] theorem t_chain (o p : COp) (a b c : E) : (evE F G (.chain o p a b c)).t ρ h = ((evE F G (.chain o p a b c)).v ρ h).bnd (fun x h1 => R.opt (x.tru h1) h1) ⟨⟩ := id rfl
@[simp] theorem t_slc (a b c : E) : (evE F G (.slc a b c)).t ρ h = ((evE F G (.slc a b c)).v ρ h).bnd (fun x h1 => R.opt (x.tru h1) h1) ⟨⟩ := id rfl
/-! rows -/
@[simp] theorem l_nil : (evEs F G .nil).l ρ h = .ok [] h := id rfl
@[simp] theorem l_cons (e : E) (es : Es) : (evEs F G (.cons e es)).l ρ h = ((evE F G e).v ρ h).bnd (fun x h1 => ((evEs F G es).l ρ h1).bnd (fun xs h2 => .ok (x :: xs) h2) ⟨⟩) ⟨⟩ := id rfl
@[simp] theorem an_1 (e : E) : (evEs F G (.cons e .nil)).an ρ h = (evE F G e).v ρ h := id rfl
@[simp] theorem on_1 (e : E) : (evEs F G (.cons e .nil)).on ρ h = (evE F G e).v ρ h := id rfl
@[simp] theorem at_1 (e : E) : (evEs F G (.cons e .nil)).at_ ρ h = (evE F G e).t ρ h := id rfl
@[simp] theorem ot_1 (e : E) : (evEs F G (.cons e .nil)).ot ρ h = (evE F G e).t ρ h := id rfl
@[simp] theorem an_2 (e b : E) (es : Es) : (evEs F G (.cons e (.cons b es))).an ρ h = ((evE F G e).v ρ h).bnd (fun x h1 => (vBl x h1).bnd (fun t h2 => if t then (evEs F G (.cons b es)).an ρ h2 else .ok (.bl false) h2) ⟨⟩) ⟨⟩ := id rfl
@[simp] theorem on_2 (e b : E) (es : Es) : (evEs F G (.cons e (.cons b es))).on ρ h = ((evE F G e).v ρ h).bnd (fun x h1 => (vBl x h1).bnd (fun t h2 => if t then .ok (.bl true) h2 else (evEs F G (.cons b es)).on ρ h2) ⟨⟩) ⟨⟩ := id rfl
@[simp] theorem at_2 (e b : E) (es : Es) : (evEs F G (.cons e (.cons b es))).at_ ρ h = ((evE F G e).t ρ h).bnd (fun t h1 => if t then (evEs F G (.cons b es)).at_ ρ h1 else .ok false h1) ⟨⟩ := id rfl
@[simp] theorem ot_2 (e b : E) (es : Es) : (evEs F G (.cons e (.cons b es))).ot ρ h = ((evE F G e).t ρ h).bnd (fun t h1 => if t then .ok true h1 else (evEs F G (.cons b es)).ot ρ h1) ⟨⟩ := id rfl
/-! iterators -/
@[simp] theorem i_ev (e : E) : evI F G (.ev e) ρ h = ((evE F G e).v ρ h).bnd (fun x h1 => R.opt (x.src h1) h1) ⟨⟩ := id rfl
@[simp] theorem i_rng (n : E) : evI F G (.rng n) ρ h = ((evE F G n).v ρ h).bnd (fun x h1 => R.opt (x.isInt.bind fun n => if rngOk 0 n then some ⟨rngD 0 n, none⟩ else none) h1) ⟨⟩ := id rfl
@[simp] theorem i_zip (a b : E) : evI F G (.zip a b) ρ h = ((evE F G a).v ρ h).bnd (fun x h1 => ((evE F G b).v ρ h1).bnd (fun y h2 => R.opt (zipSrc x y) h2) ⟨⟩) ⟨⟩ := id rfl
@[simp] theorem i_enum (a : E) : evI F G (.enum a) ρ h = ((evE F G a).v ρ h).bnd (fun x h1 => R.opt (enumSrc x) h1) ⟨⟩ := id rfl
@[simp] theorem i_rng2 (a b : E) : evI F G (.rng2 a b) ρ h = ((evE F G a).v ρ h).bnd (fun x h1 => ((evE F G b).v ρ h1).bnd (fun y h2 => R.opt (x.isInt.bind fun i => y.isInt.bind fun j => if rngOk i j then some ⟨rngD i j, none⟩ else none) h2) ⟨⟩) ⟨⟩ := id rfl
/-! statements -/
@[simp] theorem s_nil : evSs F G .nil ρ h = .nxt ρ h := id rfl
@[simp] theorem s_cons (s : S) (ss : Ss) : evSs F G (.cons s ss) ρ h = (evS F G s ρ h).thn (evSs F G ss) ⟨⟩ := id rfl
@[simp] theorem s_asg (i : Nat) (e : E) : evS F G (.asg i e) ρ h = ((evE F G e).v ρ h).thn (fun x h1 => .nxt (ρ.set i (some x)) h1) ⟨⟩ := id rfl
@[simp] theorem s_asgLc (i : Nat) (e : E) : evS F G (.asgLc i e) ρ h = ((evE F G e).v ρ h).thn (fun x h1 => .nxt (ρ.set i (some x)) h1) ⟨⟩ := id rfl
@[simp] theorem s_par (i j : Nat) (a b : E) : evS F G (.par i j a b) ρ h = ((evE F G a).v ρ h).thn (fun x h1 => ((evE F G b).v ρ h1).thn (fun y h2 => .nxt ((ρ.set i (some x)).set j (some y)) h2) ⟨⟩) ⟨⟩ := id rfl
@[simp] theorem s_unp (is : List Nat) (e : E) : evS F G (.unp is e) ρ h = ((evE F G e).v ρ h).thn (fun x h1 => RS.opt ((Tg.tu is).put x ρ) h1) ⟨⟩ := id rfl
def R.thnX (r : R α) (ρ : Env) (f : α → Hh → RS) (_ : Lk f) : RS := r.thenX ρ f
@[simp] theorem thnX_ok (a : α) (h : Hh) (ρ : Env) (f : α → Hh → RS) (l : Lk f) : (R.ok a h).thnX ρ f l = f a h := id rfl
@[simp] theorem thnX_err (x : Xc) (h : Hh) (ρ : Env) (f : α → Hh → RS) (l : Lk f) : (R.err x h : R α).thnX ρ f l = .err ρ x h := id rfl
@[simp] theorem s_asgC (i f : Nat) (es : Es) : evS F G (.asgC i f es) ρ h = ((evEs F G es).l ρ h).thn (fun xs h1 => (F f xs h1).thnX ρ (fun x h2 => .nxt (ρ.set i (some x)) h2) ⟨⟩) ⟨⟩ := id rfl
@[simp] theorem s_expC (f : Nat) (es : Es) : evS F G (.expC f es) ρ h = ((evEs F G es).l ρ h).thn (fun xs h1 => (F f xs h1).thnX ρ (fun _ h2 => .nxt ρ h2) ⟨⟩) ⟨⟩ := id rfl
@[simp] theorem s_retC (f : Nat) (es : Es) : evS F G (.retC f es) ρ h = ((evEs F G es).l ρ h).thn (fun xs h1 => (F f xs h1).thnX ρ (fun x h2 => .ret x h2) ⟨⟩) ⟨⟩ := id rfl
@[simp] theorem s_raise (c : Str) : evS F G (.raise_ c) ρ h = .err ρ ⟨c, none⟩ h := id rfl
@[simp] theorem s_try (b : Ss) (c : Str) (yes no : List Str) (s : Ss) : evS F G (.try_ b c yes no s) ρ h = catchS yes no (evSs F G s) (evSs F G b ρ h) := id rfl
@[simp] theorem s_tryAs (b : Ss) (c : Str) (yes no : List Str) (i : Nat) (s : Ss) : evS F G (.tryAs b c yes no i s) ρ h = catchAs yes no i (evSs F G s) (evSs F G b ρ h) := id rfl
@[simp] theorem catA_nxt (yes no : List Str) (i : Nat) (f : Env → Hh → RS) (ρ : Env) (h : Hh) : catchAs yes no i f (.nxt ρ h) = .nxt ρ h := id rfl
@[simp] theorem catA_ret (yes no : List Str) (i : Nat) (f : Env → Hh → RS) (d : D) (h : Hh) : catchAs yes no i f (.ret d h) = .ret d h := id rfl
@[simp] theorem catA_err (yes no : List Str) (i : Nat) (f : Env → Hh → RS) (ρ : Env) (x : Xc) (h : Hh) : catchAs yes no i f (.err ρ x h) = if x.cls ∈ yes then dropS i (f (ρ.set i (some x.d)) h) else if x.cls ∈ no then .err ρ x h else .bad := id rfl
@[simp] theorem drop_nxt (i : Nat) (ρ : Env) (h : Hh) : dropS i (.nxt ρ h) = .nxt (ρ.set i none) h := id rfl
@[simp] theorem drop_ret (i : Nat) (d : D) (h : Hh) : dropS i (.ret d h) = .ret d h := id rfl
@[simp] theorem xd_none (c : Str) : Xc.d ⟨c, none⟩ = .exc c := id rfl
@[simp] theorem xd_some (c f : Str) (d : D) : Xc.d ⟨c, some (f, d)⟩ = .exf c f d := id rfl
@[simp] theorem catch_nxt (yes no : List Str) (f : Env → Hh → RS) (ρ : Env) (h : Hh) : catchS yes no f (.nxt ρ h) = .nxt ρ h := id rfl
@[simp] theorem catch_ret (yes no : List Str) (f : Env → Hh → RS) (d : D) (h : Hh) : catchS yes no f (.ret d h) = .ret d h := id rfl
@[simp] theorem catch_err (yes no : List Str) (f : Env → Hh → RS) (ρ : Env) (x : Xc) (h : Hh) : catchS yes no f (.err ρ x h) = if x.cls ∈ yes then f ρ h else if x.cls ∈ no then .err ρ x h else .bad := id rfl
def stoN (o : Option Hh) (ρ : Env) : RS := match o with
  | some h4 => .nxt ρ h4
  | none => .bad
@[simp] theorem stoN_some (h : Hh) (ρ : Env) : stoN (some h) ρ = .nxt ρ h := id rfl
@[simp] theorem s_sto (o i e : E) : evS F G (.sto o i e) ρ h = ((evE F G e).v ρ h).thn (fun x h1 => ((evE F G o).v ρ h1).thn (fun y h2 => ((evE F G i).v ρ h2).thn (fun z h3 => stoN (stoOp y z x h3) ρ) ⟨⟩) ⟨⟩) ⟨⟩ := id rfl
@[simp] theorem s_exp (e : E) : evS F G (.exp e) ρ h = ((evE F G e).v ρ h).thn (fun _ h1 => .nxt ρ h1) ⟨⟩ := id rfl
@[simp] theorem s_ret (e : E) : evS F G (.ret e) ρ h = ((evE F G e).v ρ h).thn (fun x h1 => .ret x h1) ⟨⟩ := id rfl
@[simp] theorem s_retN : evS F G .retN ρ h = .ret .non h := id rfl
@[simp] theorem s_ite (c : E) (a b : Ss) : evS F G (.ite c a b) ρ h = ((evE F G c).t ρ h).thn (fun t h1 => if t then evSs F G a ρ h1 else evSs F G b ρ h1) ⟨⟩ := id rfl
@[simp] theorem s_for (t : Tg) (it : I) (b : Ss) : evS F G (.for_ t it b) ρ h = (evI F G it ρ h).thn (fun s h1 => forLoop s.good t (evSs F G b) s.items ρ h1) ⟨⟩ := id rfl
@[simp] theorem s_whl (c : E) (b : Ss) : evS F G (.whl c b) ρ h = whlLoop (evE F G c).t (evSs F G b) wfuel ρ h := id rfl
@[simp] theorem v_mthIx (o : E) (es : Es) : (evE F G (.mth .index o es)).v ρ h = ((evE F G o).v ρ h).bnd (fun x h1 => if (x.ixs h1).isSome then ((evEs F G es).l ρ h1).bnd (fun xs h2 => R.opt (ixD x h2 xs) h2) ⟨⟩ else .bad) ⟨⟩ := id rfl
@[simp] theorem v_dcl (t : Tg) (it : I) (c k v : E) : (evE F G (.dcl t it c k v)).v ρ h = (evI F G it ρ h).bnd (fun s h1 => if sizeOk s.items.length then (dcLoop s.good (dcTurn t (evE F G c) (evE F G k) (evE F G v) ρ) s.items [] h1).bnd newDct ⟨⟩ else .bad) ⟨⟩ := id rfl
@[simp] theorem v_trng (a : E) : (evE F G (.trng a)).v ρ h = ((evE F G a).v ρ h).bnd (fun x h1 => R.opt (trngOp x) h1) ⟨⟩ := id rfl
@[simp] theorem v_sset (a : E) : (evE F G (.sset a)).v ρ h = ((evE F G a).v ρ h).bnd (fun x h1 => R.opt (ssetOp h1 x) h1) ⟨⟩ := id rfl
def augN (o : Option Hh) (r : Nat) (i : Nat) (ρ : Env) : RS := match o with
  | some h2 => .nxt (ρ.set i (some (.ref r))) h2
  | none => .bad
@[simp] theorem augN_some (h : Hh) (r i : Nat) (ρ : Env) : augN (some h) r i ρ = .nxt (ρ.set i (some (.ref r))) h := id rfl
theorem s_augL {i r : Nat} (e : E) (hi : ρ[i]? = some (some (.ref r))) : evS F G (.augL i e) ρ h = ((evE F G e).v ρ h).thn (fun y h1 => augN (augLOp r y h1) r i ρ) ⟨⟩ := by
  show (match ρ[i]? with | some (some (.ref r)) => ((evE F G e).v ρ h).then_ fun y h1 => (match augLOp r y h1 with | some h2 => RS.nxt (ρ.set i (some (.ref r))) h2 | none => .bad) | _ => .bad) = _
  rw [hi]
  show ((evE F G e).v ρ h).then_ _ = _
  cases (evE F G e).v ρ h with
  | ok y h1 => show (match augLOp r y h1 with | some h2 => RS.nxt (ρ.set i (some (.ref r))) h2 | none => .bad) = augN (augLOp r y h1) r i ρ; cases augLOp r y h1 <;> rfl
  | bad => rfl
  | err _ _ => rfl
@[simp] theorem v_mthAp (o : E) (es : Es) : (evE F G (.mth .append o es)).v ρ h = ((evE F G o).v ρ h).bnd (fun x h1 => if x.isL h1 then ((evEs F G es).l ρ h1).bnd (fun xs h2 => mthOp .append x xs h2) ⟨⟩ else .bad) ⟨⟩ := id rfl
@[simp] theorem v_mthPop (o : E) (es : Es) : (evE F G (.mth .pop o es)).v ρ h = ((evE F G o).v ρ h).bnd (fun x h1 => if x.isL h1 then ((evEs F G es).l ρ h1).bnd (fun xs h2 => mthOp .pop x xs h2) ⟨⟩ else .bad) ⟨⟩ := id rfl
@[simp] theorem v_mthPopA (o : E) (es : Es) : (evE F G (.mth .popAt o es)).v ρ h = ((evE F G o).v ρ h).bnd (fun x h1 => if x.isL h1 then ((evEs F G es).l ρ h1).bnd (fun xs h2 => mthOp .popAt x xs h2) ⟨⟩ else .bad) ⟨⟩ := id rfl
end
/-! operations -/
@[simp] theorem ofString_inj {a b : String} : (Str.ofString a = Str.ofString b) ↔ a = b := by
  refine ⟨fun e => ?_, fun e => by rw [e]⟩
  rw [Str.ofString_eq_toList, Str.ofString_eq_toList] at e
  have e1 : a.toList.map Char.toNat = b.toList.map Char.toNat := by
    have e2 := congrArg (fun s : Str => s.cps.toList) e
    simpa using e2
  have e3 : a.toList = b.toList := by
    have inj : ∀ (x y : List Char), x.map Char.toNat = y.map Char.toNat → x = y := by
      intro x
      induction x with
      | nil => intro y h; cases y with | nil => rfl | cons _ _ => simp at h
      | cons c x ih =>
        intro y h
        cases y with
        | nil => simp at h
        | cons d y =>
          (simp only [List.map_cons, List.cons.injEq] at h)
          rw [ih y h.2, Char.ext (UInt32.toNat_inj.mp h.1)]
    exact inj _ _ e1
  exact String.toList_inj.mp e3
section
variable {α : Type} {a b c d e : α} {xs : List α} {h : Hh}
@[simp] theorem atI_0 : L2.atI (a :: xs) 0 = some a := L2.atI_nat (j := 0) rfl
@[simp] theorem atI_1 : L2.atI (a :: b :: xs) 1 = some b := L2.atI_nat (j := 1) rfl
@[simp] theorem atI_2 : L2.atI (a :: b :: c :: xs) 2 = some c := L2.atI_nat (j := 2) rfl
@[simp] theorem atI_3 : L2.atI (a :: b :: c :: d :: xs) 3 = some d := L2.atI_nat (j := 3) rfl
@[simp] theorem atI_4 : L2.atI (a :: b :: c :: d :: e :: xs) 4 = some e := L2.atI_nat (j := 4) rfl
@[simp] theorem sizeOk_le {n : Nat} : sizeOk n = decide (n ≤ 16777216) := id rfl
@[simp] theorem bin_addI (i j : Int) : opBin .add h (.int i) (.int j) = some (.int (i + j)) := id rfl
@[simp] theorem bin_subI (i j : Int) : opBin .sub h (.int i) (.int j) = some (.int (i - j)) := id rfl
@[simp] theorem bin_addT (xs ys : List D) : opBin .add h (.tup xs) (.tup ys) = if sizeOk (xs.length + ys.length) then some (.tup (xs ++ ys)) else none := id rfl
@[simp] theorem bin_addL (xs ys : List D) : opBin .add h (.lst xs) (.lst ys) = if sizeOk (xs.length + ys.length) then some (.lst (xs ++ ys)) else none := id rfl
@[simp] theorem cmp_ltI (i j : Int) : opCmp .lt h (.int i) (.int j) = some (decide (i < j)) := id rfl
@[simp] theorem cmp_leI (i j : Int) : opCmp .le h (.int i) (.int j) = some (decide (i ≤ j)) := id rfl
@[simp] theorem cmp_gtI (i j : Int) : opCmp .gt h (.int i) (.int j) = some (decide (j < i)) := id rfl
@[simp] theorem cmp_geI (i j : Int) : opCmp .ge h (.int i) (.int j) = some (decide (j ≤ i)) := id rfl
@[simp] theorem cmp_eqS (x y : Str) : opCmp .eq h (.str x) (.str y) = some (decide (x = y)) := id rfl
@[simp] theorem cmp_neS (x y : Str) : opCmp .ne h (.str x) (.str y) = some (!decide (x = y)) := id rfl
@[simp] theorem cmp_eqI (i j : Int) : opCmp .eq h (.int i) (.int j) = some (i == j) := id rfl
@[simp] theorem cmp_neI (i j : Int) : opCmp .ne h (.int i) (.int j) = some (!(i == j)) := id rfl
@[simp] theorem cmp_eqB (i j : Bool) : opCmp .eq h (.bl i) (.bl j) = some (i == j) := by cases i <;> cases j <;> rfl
@[simp] theorem cmp_neB (i j : Bool) : opCmp .ne h (.bl i) (.bl j) = some (!(i == j)) := by cases i <;> cases j <;> rfl
@[simp] theorem cmp_isN (x : D) : opCmp .is h x .non = some x.isNon := id rfl
@[simp] theorem cmp_isB (x : D) (b : Bool) : opCmp .is h x (.bl b) = some (x.eqBl b) := id rfl
@[simp] theorem cmp_isnN (x : D) : opCmp .isn h x .non = some (!x.isNon) := id rfl
@[simp] theorem idx_tup (xs : List D) (i : Int) : opIdx h (.tup xs) (.int i) = L2.atI xs i := id rfl
@[simp] theorem idx_lst (xs : List D) (i : Int) : opIdx h (.lst xs) (.int i) = L2.atI xs i := id rfl
@[simp] theorem idx_fz (xs : List D) (i : Int) : opIdx h (.fz xs) (.int i) = L2.atI xs i := id rfl
@[simp] theorem vBl_bl (b : Bool) : vBl (.bl b) h = .ok b h := id rfl
@[simp] theorem tru_bl (b : Bool) : (D.bl b).tru h = some b := id rfl
@[simp] theorem tru_int (i : Int) : (D.int i).tru h = some (i != 0) := id rfl
@[simp] theorem tru_tup (xs : List D) : (D.tup xs).tru h = some (!xs.isEmpty) := id rfl
@[simp] theorem src_tup (xs : List D) : (D.tup xs).src h = some ⟨xs, none⟩ := id rfl
@[simp] theorem src_lst (xs : List D) : (D.lst xs).src h = some ⟨xs, none⟩ := id rfl
@[simp] theorem src_ftup (xs : List D) : (D.ftup xs).src h = some ⟨xs, none⟩ := id rfl
@[simp] theorem src_fz (xs : List D) : (D.fz xs).src h = some ⟨xs, none⟩ := id rfl
@[simp] theorem good_none (xs : List D) : (Src.mk xs none).good h = true := id rfl
@[simp] theorem goodf_none (xs : List D) : (Src.mk xs none).good = fun _ => true := id rfl
@[simp] theorem isI_int (i : Int) : (D.int i).isInt = some i := id rfl
@[simp] theorem bf_tupL (xs : List D) : opBf .tuple h [.lst xs] = some (.tup xs) := id rfl
@[simp] theorem bf_tupT (xs : List D) : opBf .tuple h [.tup xs] = some (.tup xs) := id rfl
@[simp] theorem bf_lenT (xs : List D) : opBf .len h [.tup xs] = some (.int xs.length) := id rfl
@[simp] theorem bf_lenL (xs : List D) : opBf .len h [.lst xs] = some (.int xs.length) := id rfl
@[simp] theorem bf_lenF (xs : List D) : opBf .len h [.fz xs] = some (.int xs.length) := id rfl
@[simp] theorem bf_intI (i : Int) : opBf .int h [.int i] = some (.int i) := id rfl
@[simp] theorem bf_intB (b : Bool) : opBf .int h [.bl b] = some (.int (if b then 1 else 0)) := id rfl
@[simp] theorem zip_tt (xs ys : List D) : zipSrc (.tup xs) (.tup ys) = some ⟨zipD xs ys, none⟩ := id rfl
@[simp] theorem zip_ll (xs ys : List D) : zipSrc (.lst xs) (.lst ys) = some ⟨zipD xs ys, none⟩ := id rfl
@[simp] theorem part_miss (p : P) (ρ : Env) : vPart true p ρ h = .ok none h := id rfl
@[simp] theorem part_some (p : P) (ρ : Env) : vPart false p ρ h = (p.v ρ h).bind fun d h1 => R.opt (d.isInt.map some) h1 := id rfl
@[simp] theorem miss_t : E.isMiss .miss = true := id rfl
@[simp] theorem miss_con (d : D) : E.isMiss (.con d) = false := id rfl
@[simp] theorem miss_var (d : Nat) : E.isMiss (.var d) = false := id rfl
@[simp] theorem miss_bin (o a b) : E.isMiss (.bin o a b) = false := id rfl
@[simp] theorem miss_neg (a) : E.isMiss (.neg a) = false := id rfl
theorem cok_shp {a b : D} (h1 : a.shp = true) (h2 : b.shp = true) : D.cok a b = true := by unfold D.cok; rw [h1, h2]; rfl
theorem cok_min {a b : D} (h1 : a.lay = true) (h2 : b.lay = true) (h3 : min a.dep b.dep ≤ 64) : D.cok a b = true := by unfold D.cok; rw [h1, h2, decide_eq_true h3, Bool.and_self, Bool.and_self, Bool.or_true]
@[simp] theorem in_nil (x : D) : opCmp .inn h x (.tup []) = (if x.shp then some false else none) := by
  show (if x.shp && (D.tup []).shp then some false else none) = _
  have : (D.tup []).shp = true := by decide
  rw [this, Bool.and_true]
@[simp] theorem strOk_lit (s : String) : PyData.strOk (Str.ofString s) = true := by
  rw [Str.ofString_eq_toList]
  unfold PyData.strOk
  simp only [List.all_toArray, List.all_map, List.all_eq_true, Function.comp]
  intro c _
  have hv : c.val.toNat.isValidChar := c.valid
  have : c.val.toNat < 1114112 := by
    rcases hv with z | z
    · omega
    · exact z.2
  exact decide_eq_true this
@[simp] theorem eqv_str (x y : Str) : (D.str x).eqv (.str y) = decide (x = y) := id rfl
@[simp] theorem eqv_int (x y : Int) : (D.int x).eqv (.int y) = (x == y) := id rfl
@[simp] theorem shp_str (x : Str) : (D.str x).shp = PyData.strOk x := by unfold D.shp D.lay D.dep; simp
@[simp] theorem shp_int (x : Int) : (D.int x).shp = true := id rfl
@[simp] theorem shp_bl (x : Bool) : (D.bl x).shp = true := id rfl
@[simp] theorem shp_non : D.non.shp = true := id rfl
theorem deps_le {n : Nat} : ∀ {xs : List D}, D.deps xs ≤ n ↔ ∀ x ∈ xs, x.dep ≤ n
  | [] => by simp [D.deps]
  | x :: xs => by simp [D.deps, Nat.max_le, deps_le (xs := xs)]
theorem lays_iff : ∀ {xs : List D}, D.lays xs = true ↔ ∀ x ∈ xs, x.lay = true
  | [] => by simp [D.lays]
  | x :: xs => by simp [D.lays, lays_iff (xs := xs)]
/-- a flat thing -/
def D.flat : D → Bool
  | .str x => PyData.strOk x
  | .int _ => true
  | .bl _ => true
  | .non => true
  | _ => false
theorem shp_flats {xs : List D} (h : xs.all D.flat = true) : (D.tup xs).shp = true := by
  have q : ∀ x ∈ xs, x.lay = true ∧ x.dep = 0 := fun x hx => by
    have := List.all_eq_true.mp h x hx
    cases x <;> first | exact ⟨rfl, rfl⟩ | exact ⟨this, rfl⟩ | cases this
  unfold D.shp D.lay D.dep
  rw [lays_iff.mpr fun x hx => (q x hx).1, Bool.true_and]
  have : D.deps xs ≤ 0 := deps_le.mpr fun x hx => Nat.le_of_eq (q x hx).2
  (exact decide_eq_true (by omega))
@[simp] theorem shp_strs0 : (D.tup []).shp = true := by decide
@[simp] theorem flat_str (x : Str) : (D.str x).flat = PyData.strOk x := id rfl
@[simp] theorem flat_int (x : Int) : (D.int x).flat = true := id rfl
theorem in_tup (x : D) (ys : List D) : opCmp .inn h x (.tup ys) = if x.shp && (D.tup ys).shp then some (ys.any fun y => y.eqv x) else none := id rfl
theorem nin_eq (x : D) (y : D) : opCmp .nin h x y = (opCmp .inn h x y).map (!·) := id rfl
@[simp] theorem in_strs1 (x y : Str) : opCmp .inn h (.str x) (.tup [.str y]) = if PyData.strOk x && (D.tup [.str y]).shp then some (decide (y = x)) else none := by rw [in_tup]; simp
@[simp] theorem in_strs2 (x : Str) (a b : String) : opCmp .inn h (.str x) (.tup [.str (.ofString a), .str (.ofString b)]) = if PyData.strOk x then some (decide (Str.ofString a = x) || decide (Str.ofString b = x)) else none := by rw [in_tup, shp_flats (by simp)]; simp
@[simp] theorem in_strs3 (x : Str) (a b c : String) : opCmp .inn h (.str x) (.tup [.str (.ofString a), .str (.ofString b), .str (.ofString c)]) = if PyData.strOk x then some (decide (Str.ofString a = x) || (decide (Str.ofString b = x) || decide (Str.ofString c = x))) else none := by rw [in_tup, shp_flats (by simp)]; simp
@[simp] theorem nin_strs2 (x : Str) (a b : String) : opCmp .nin h (.str x) (.tup [.str (.ofString a), .str (.ofString b)]) = if PyData.strOk x then some (!(decide (Str.ofString a = x) || decide (Str.ofString b = x))) else none := by rw [nin_eq, in_strs2]; split <;> rfl
@[simp] theorem nin_strs3 (x : Str) (a b c : String) : opCmp .nin h (.str x) (.tup [.str (.ofString a), .str (.ofString b), .str (.ofString c)]) = if PyData.strOk x then some (!(decide (Str.ofString a = x) || (decide (Str.ofString b = x) || decide (Str.ofString c = x)))) else none := by rw [nin_eq, in_strs3]; split <;> rfl
@[simp] theorem opt_ite {c : Prop} [Decidable c] {o p : Option α} : R.opt (if c then o else p) h = if c then R.opt o h else R.opt p h := by split <;> rfl
@[simp] theorem slc_tup (xs : List D) (l u : Option Int) : opSlc h (.tup xs) l u = some (.tup (cutD xs l u)) := id rfl
@[simp] theorem slc_lst (xs : List D) (l u : Option Int) : opSlc h (.lst xs) l u = some (.lst (cutD xs l u)) := id rfl
@[simp] theorem cut_1 (x : D) (xs : List D) : cutD (x :: xs) (some 1) none = xs := by
  have e : HT.sIx (xs.length + 1) 0 (some 1) = 1 := by show min (1 : Int).toNat (xs.length + 1) = 1; simp
  unfold cutD; simp only [List.length_cons, e, HT.sIx_none, List.drop_succ_cons, List.drop_zero, Nat.add_sub_cancel, List.take_length]
@[simp] theorem cut_2 (x y : D) (xs : List D) : cutD (x :: y :: xs) (some 2) none = xs := by
  have e : HT.sIx (xs.length + 1 + 1) 0 (some 2) = 2 := by show min (2 : Int).toNat (xs.length + 1 + 1) = 2; simp
  unfold cutD; simp only [List.length_cons, e, HT.sIx_none, List.drop_succ_cons, List.drop_zero]
  rw [show xs.length + 1 + 1 - 2 = xs.length from by omega, List.take_length]
@[simp] theorem cut_3 (x y z : D) (xs : List D) : cutD (x :: y :: z :: xs) (some 3) none = xs := by
  have e : HT.sIx (xs.length + 1 + 1 + 1) 0 (some 3) = 3 := by show min (3 : Int).toNat (xs.length + 1 + 1 + 1) = 3; simp
  unfold cutD; simp only [List.length_cons, e, HT.sIx_none, List.drop_succ_cons, List.drop_zero]
  rw [show xs.length + 1 + 1 + 1 - 3 = xs.length from by omega, List.take_length]
theorem cut_all (xs : List D) : cutD xs none none = xs := by
  unfold cutD; simp only [HT.sIx_none, List.drop_zero, Nat.sub_zero, List.take_length]
theorem cut_take (xs : List D) (n : Nat) : cutD xs none (some (n : Int)) = xs.take n := by
  unfold cutD; rw [HT.sIx_none, HT.sIx_nat, List.drop_zero, Nat.sub_zero, List.take_eq_take_iff]; omega
theorem cut_drop (xs : List D) (n : Nat) : cutD xs (some (n : Int)) none = xs.drop n := by
  unfold cutD; rw [HT.sIx_none, HT.sIx_nat]
  by_cases hn : n ≤ xs.length
  · rw [Nat.min_eq_left hn, List.take_of_length_le (by simp)]
  · rw [Nat.min_eq_right (by omega), List.drop_of_length_le (Nat.le_refl _), List.drop_of_length_le (by omega), List.take_nil]
@[simp] theorem cut_init (xs : List D) (x : D) : cutD (xs ++ [x]) none (some (-1)) = xs := by
  have e : HT.sIx (xs ++ [x]).length (xs ++ [x]).length (some (-1)) = xs.length := by
    show ((-1 : Int) + ((xs ++ [x]).length : Int)).toNat = _
    rw [List.length_append]; simp only [List.length_cons, List.length_nil]; omega
  unfold cutD
  rw [e, HT.sIx_none, List.drop_zero, Nat.sub_zero, List.take_left']
  rfl
@[simp] theorem atI_last (xs : List α) (v : α) : L2.atI (xs ++ [v]) (-1) = some v := L2.atI_last xs v
end
end PV
end

section
set_option maxRecDepth 100000
namespace K32
open PySem PySem.Spec PyProof.Rows L2 PV
abbrev b_is_integer : Ss := .cons (.ret (.and (.isi (.var 0) .int) (.cons (.not (.isi (.var 0) .bl)) .nil))) .nil
abbrev f_is_integer : Fn := { name := "is_integer", N := ["value"], P := ["value"], frz := false, body := b_is_integer }
abbrev b_is_tuple_of : Ss := .cons (.ret (.and (.isi (.var 1) .tup) (.cons (.cmp .eq (.bf .len (.cons (.var 1) .nil)) (.var 0)) .nil))) .nil
abbrev f_is_tuple_of : Fn := { name := "is_tuple_of", N := ["length", "value"], P := ["length", "value"], frz := false, body := b_is_tuple_of }
abbrev i_is_kinds_0 : I := .ev (.var 0)
abbrev x_is_kinds_0 : E := .and (.isi (.var 1) .tup) (.cons (.cmp .ne (.var 1) (.tup (.nil))) .nil)
abbrev c_is_kinds_0 : E := .miss
abbrev e_is_kinds_0 : E := .lc (.v 1) i_is_kinds_0 c_is_kinds_0 x_is_kinds_0
abbrev i_is_kinds_1 : I := .ev (.var 0)
abbrev x_is_kinds_1 : E := .isi (.idx (.var 1) (.con (.int 0))) .str
abbrev c_is_kinds_1 : E := .miss
abbrev e_is_kinds_1 : E := .lc (.v 1) i_is_kinds_1 c_is_kinds_1 x_is_kinds_1
abbrev b_is_kinds : Ss := .cons (.ite (.or (.not (.isi (.var 0) .tup)) (.cons (.not (.bf .all (.cons (e_is_kinds_0) .nil))) .nil)) (.cons (.ret (.con (.bl false))) .nil) (.nil)) (.cons (.ret (.bf .all (.cons (e_is_kinds_1) .nil))) .nil)
abbrev f_is_kinds : Fn := { name := "is_kinds", N := ["value", "k"], P := ["value"], frz := false, body := b_is_kinds }
abbrev i_is_pairs_0 : I := .ev (.var 0)
abbrev x_is_pairs_0 : E := .call 1 (.cons (.con (.int 2)) (.cons (.var 1) .nil))
abbrev c_is_pairs_0 : E := .miss
abbrev e_is_pairs_0 : E := .lc (.v 1) i_is_pairs_0 c_is_pairs_0 x_is_pairs_0
abbrev b_is_pairs : Ss := .cons (.ret (.and (.isi (.var 0) .tup) (.cons (.bf .all (.cons (e_is_pairs_0) .nil)) .nil))) .nil
abbrev f_is_pairs : Fn := { name := "is_pairs", N := ["value", "pair"], P := ["value"], frz := false, body := b_is_pairs }
abbrev i_has_form_0 : I := .ev (.idx (.var 2) (.con (.int 0)))
abbrev x_has_form_0 : E := .isi (.idx (.var 3) (.con (.int 1))) .bl
abbrev c_has_form_0 : E := .miss
abbrev e_has_form_0 : E := .lc (.v 3) i_has_form_0 c_has_form_0 x_has_form_0
abbrev i_has_form_1 : I := .ev (.idx (.var 2) (.con (.int 1)))
abbrev x_has_form_1 : E := .idx (.var 3) (.con (.int 0))
abbrev c_has_form_1 : E := .miss
abbrev e_has_form_1 : E := .lc (.v 3) i_has_form_1 c_has_form_1 x_has_form_1
abbrev b_has_form : Ss := .cons (.par 1 2 (.idx (.var 0) (.con (.int 0))) (.slc (.var 0) (.con (.int 1)) (.miss))) (.cons (.ite (.cmp .eq (.var 1) (.con (.str "int"))) (.cons (.ret (.cmp .eq (.var 2) (.tup (.nil)))) .nil) (.nil)) (.cons (.ite (.cmp .inn (.var 1) (.tup (.cons (.con (.str "free")) (.cons (.con (.str "var")) .nil)))) (.cons (.ret (.and (.cmp .eq (.bf .len (.cons (.var 2) .nil)) (.con (.int 1))) (.cons (.call 0 (.cons (.idx (.var 2) (.con (.int 0))) .nil)) (.cons (.cmp .ge (.idx (.var 2) (.con (.int 0))) (.con (.int 0))) .nil)))) .nil) (.nil)) (.cons (.ite (.cmp .inn (.var 1) (.tup (.cons (.con (.str "cell")) (.cons (.con (.str "some")) (.cons (.con (.str "rec")) .nil))))) (.cons (.ret (.and (.cmp .eq (.bf .len (.cons (.var 2) .nil)) (.con (.int 1))) (.cons (.call 2 (.cons (.var 2) .nil)) (.cons (.or (.cmp .ne (.var 1) (.con (.str "rec"))) (.cons (.cmp .nin (.idx (.idx (.var 2) (.con (.int 0))) (.con (.int 0))) (.tup (.cons (.con (.str "free")) (.cons (.con (.str "var")) .nil)))) .nil)) .nil)))) .nil) (.nil)) (.cons (.ite (.cmp .inn (.var 1) (.tup (.cons (.con (.str "row")) (.cons (.con (.str "one")) .nil)))) (.cons (.ret (.and (.cmp .eq (.bf .len (.cons (.var 2) .nil)) (.con (.int 1))) (.cons (.call 2 (.cons (.idx (.var 2) (.con (.int 0))) .nil)) (.cons (.or (.cmp .eq (.var 1) (.con (.str "row"))) (.cons (.cmp .ne (.idx (.var 2) (.con (.int 0))) (.tup (.nil))) .nil)) .nil)))) .nil) (.nil)) (.cons (.ite (.cmp .eq (.var 1) (.con (.str "room"))) (.cons (.ret (.and (.cmp .eq (.bf .len (.cons (.var 2) .nil)) (.con (.int 1))) (.cons (.call 3 (.cons (.idx (.var 2) (.con (.int 0))) .nil)) (.cons (.bf .all (.cons (e_has_form_0) .nil)) .nil)))) .nil) (.nil)) (.cons (.ite (.or (.cmp .nin (.var 1) (.tup (.cons (.con (.str "not")) (.cons (.con (.str "to")) (.cons (.con (.str "code")) .nil))))) (.cons (.cmp .ne (.bf .len (.cons (.var 2) .nil)) (.bin .add (.con (.int 2)) (.bf .int (.cons (.cmp .eq (.var 1) (.con (.str "to"))) .nil)))) .nil)) (.cons (.ret (.con (.bl false))) .nil) (.nil)) (.cons (.ite (.or (.not (.call 0 (.cons (.idx (.var 2) (.con (.int 0))) .nil))) (.cons (.not (.chain .le .le (.con (.int 0)) (.idx (.var 2) (.con (.int 0))) (.glo 0))) .nil)) (.cons (.ret (.con (.bl false))) .nil) (.nil)) (.cons (.ite (.cmp .eq (.var 1) (.con (.str "code"))) (.cons (.ret (.and (.call 3 (.cons (.idx (.var 2) (.con (.int 1))) .nil)) (.cons (.call 5 (.cons (e_has_form_1) .nil)) .nil))) .nil) (.nil)) (.cons (.ret (.and (.call 2 (.cons (.idx (.var 2) (.con (.int 1))) .nil)) (.cons (.call 2 (.cons (.slc (.var 2) (.con (.int 2)) (.miss)) .nil)) .nil))) .nil)))))))))
abbrev f_has_form : Fn := { name := "has_form", N := ["value", "word", "rest", "pair"], P := ["value"], frz := false, body := b_has_form }
abbrev i_is_rising_0 : I := .ev (.var 0)
abbrev x_is_rising_0 : E := .and (.call 0 (.cons (.var 1) .nil)) (.cons (.cmp .ge (.var 1) (.con (.int 0))) .nil)
abbrev c_is_rising_0 : E := .miss
abbrev e_is_rising_0 : E := .lc (.v 1) i_is_rising_0 c_is_rising_0 x_is_rising_0
abbrev i_is_rising_1 : I := .rng (.bin .sub (.bf .len (.cons (.var 0) .nil)) (.con (.int 1)))
abbrev x_is_rising_1 : E := .cmp .lt (.idx (.var 0) (.var 2)) (.idx (.var 0) (.bin .add (.var 2) (.con (.int 1))))
abbrev c_is_rising_1 : E := .miss
abbrev e_is_rising_1 : E := .lc (.v 2) i_is_rising_1 c_is_rising_1 x_is_rising_1
abbrev b_is_rising : Ss := .cons (.ite (.not (.bf .all (.cons (e_is_rising_0) .nil))) (.cons (.ret (.con (.bl false))) .nil) (.nil)) (.cons (.ret (.bf .all (.cons (e_is_rising_1) .nil))) .nil)
abbrev f_is_rising : Fn := { name := "is_rising", N := ["numbers", "number", "k"], P := ["numbers"], frz := false, body := b_is_rising }
abbrev i_insides_0 : I := .ev (.idx (.var 0) (.con (.int 1)))
abbrev x_insides_0 : E := .var 2
abbrev c_insides_0 : E := .miss
abbrev e_insides_0 : E := .lc (.tu [2, 3]) i_insides_0 c_insides_0 x_insides_0
abbrev i_insides_1 : I := .ev (.idx (.var 0) (.con (.int 2)))
abbrev x_insides_1 : E := .var 2
abbrev c_insides_1 : E := .miss
abbrev e_insides_1 : E := .lc (.tu [4, 2]) i_insides_1 c_insides_1 x_insides_1
abbrev b_insides : Ss := .cons (.asg 1 (.idx (.var 0) (.con (.int 0)))) (.cons (.ite (.cmp .inn (.var 1) (.tup (.cons (.con (.str "cell")) (.cons (.con (.str "some")) (.cons (.con (.str "rec")) .nil))))) (.cons (.ret (.tup (.cons (.idx (.var 0) (.con (.int 1))) .nil))) .nil) (.nil)) (.cons (.ite (.cmp .inn (.var 1) (.tup (.cons (.con (.str "row")) (.cons (.con (.str "one")) .nil)))) (.cons (.ret (.idx (.var 0) (.con (.int 1)))) .nil) (.nil)) (.cons (.ite (.cmp .eq (.var 1) (.con (.str "room"))) (.cons (.ret (.bf .tuple (.cons (e_insides_0) .nil))) .nil) (.nil)) (.cons (.ite (.cmp .eq (.var 1) (.con (.str "code"))) (.cons (.ret (.bf .tuple (.cons (e_insides_1) .nil))) .nil) (.nil)) (.cons (.ite (.cmp .eq (.var 1) (.con (.str "to"))) (.cons (.ret (.bin .add (.idx (.var 0) (.con (.int 2))) (.tup (.cons (.idx (.var 0) (.con (.int 3))) .nil)))) .nil) (.nil)) (.cons (.ret (.ite (.cmp .eq (.var 1) (.con (.str "not"))) (.idx (.var 0) (.con (.int 2))) (.tup (.nil)))) .nil))))))
abbrev f_insides : Fn := { name := "insides", N := ["kind", "word", "k", "is_set", "spot"], P := ["kind"], frz := false, body := b_insides }
abbrev b_binds : Ss := .cons (.ite (.cmp .inn (.idx (.var 0) (.con (.int 0))) (.tup (.cons (.con (.str "some")) (.cons (.con (.str "rec")) .nil)))) (.cons (.ret (.con (.int 1))) .nil) (.nil)) (.cons (.ret (.ite (.cmp .inn (.idx (.var 0) (.con (.int 0))) (.tup (.cons (.con (.str "not")) (.cons (.con (.str "to")) (.cons (.con (.str "code")) .nil))))) (.idx (.var 0) (.con (.int 1))) (.con (.int 0)))) .nil)
abbrev f_binds : Fn := { name := "binds", N := ["kind"], P := ["kind"], frz := false, body := b_binds }
abbrev i_with_insides_0 : I := .zip (.var 1) (.idx (.var 0) (.con (.int 1)))
abbrev x_with_insides_0 : E := .tup (.cons (.var 3) (.cons (.idx (.var 4) (.con (.int 1))) .nil))
abbrev c_with_insides_0 : E := .miss
abbrev e_with_insides_0 : E := .lc (.tu [3, 4]) i_with_insides_0 c_with_insides_0 x_with_insides_0
abbrev i_with_insides_1 : I := .zip (.var 1) (.idx (.var 0) (.con (.int 2)))
abbrev x_with_insides_1 : E := .tup (.cons (.idx (.var 4) (.con (.int 0))) (.cons (.var 3) .nil))
abbrev c_with_insides_1 : E := .miss
abbrev e_with_insides_1 : E := .lc (.tu [3, 4]) i_with_insides_1 c_with_insides_1 x_with_insides_1
abbrev b_with_insides : Ss := .cons (.asg 2 (.idx (.var 0) (.con (.int 0)))) (.cons (.ite (.cmp .inn (.var 2) (.tup (.cons (.con (.str "cell")) (.cons (.con (.str "some")) (.cons (.con (.str "rec")) .nil))))) (.cons (.ret (.tup (.cons (.var 2) (.cons (.idx (.var 1) (.con (.int 0))) .nil)))) .nil) (.nil)) (.cons (.ite (.cmp .inn (.var 2) (.tup (.cons (.con (.str "row")) (.cons (.con (.str "one")) .nil)))) (.cons (.ret (.tup (.cons (.var 2) (.cons (.var 1) .nil)))) .nil) (.nil)) (.cons (.ite (.cmp .eq (.var 2) (.con (.str "room"))) (.cons (.ret (.tup (.cons (.con (.str "room")) (.cons (.bf .tuple (.cons (e_with_insides_0) .nil)) .nil)))) .nil) (.nil)) (.cons (.ite (.cmp .eq (.var 2) (.con (.str "code"))) (.cons (.ret (.tup (.cons (.con (.str "code")) (.cons (.idx (.var 0) (.con (.int 1))) (.cons (.bf .tuple (.cons (e_with_insides_1) .nil)) .nil))))) .nil) (.nil)) (.cons (.ite (.cmp .eq (.var 2) (.con (.str "to"))) (.cons (.ret (.tup (.cons (.con (.str "to")) (.cons (.idx (.var 0) (.con (.int 1))) (.cons (.slc (.var 1) (.miss) (.neg (.con (.int 1)))) (.cons (.idx (.var 1) (.neg (.con (.int 1)))) .nil)))))) .nil) (.nil)) (.cons (.ret (.ite (.cmp .eq (.var 2) (.con (.str "not"))) (.tup (.cons (.con (.str "not")) (.cons (.idx (.var 0) (.con (.int 1))) (.cons (.var 1) .nil)))) (.var 0))) .nil))))))
abbrev f_with_insides : Fn := { name := "with_insides", N := ["kind", "new", "word", "k", "pair"], P := ["kind", "new"], frz := false, body := b_with_insides }
abbrev i_is_kind_below_0 : I := .ev (.call 6 (.cons (.var 0) .nil))
abbrev x_is_kind_below_0 : E := .call 9 (.cons (.var 4) (.cons (.var 1) (.cons (.bin .add (.var 2) (.call 7 (.cons (.var 0) .nil))) (.cons (.var 3) .nil))))
abbrev c_is_kind_below_0 : E := .miss
abbrev e_is_kind_below_0 : E := .lc (.v 4) i_is_kind_below_0 c_is_kind_below_0 x_is_kind_below_0
abbrev b_is_kind_below : Ss := .cons (.ite (.or (.not (.call 2 (.cons (.tup (.cons (.var 0) .nil)) .nil))) (.cons (.cmp .nin (.idx (.var 0) (.con (.int 0))) (.bin .add (.var 3) (.tup (.cons (.con (.str "free")) (.cons (.con (.str "var")) .nil))))) (.cons (.not (.call 4 (.cons (.var 0) .nil))) .nil))) (.cons (.ret (.con (.bl false))) .nil) (.nil)) (.cons (.ite (.cmp .inn (.idx (.var 0) (.con (.int 0))) (.tup (.cons (.con (.str "free")) (.cons (.con (.str "var")) .nil)))) (.cons (.ret (.cmp .lt (.idx (.var 0) (.con (.int 1))) (.ite (.cmp .eq (.idx (.var 0) (.con (.int 0))) (.con (.str "free"))) (.var 1) (.var 2)))) .nil) (.nil)) (.cons (.ret (.bf .all (.cons (e_is_kind_below_0) .nil))) .nil))
abbrev f_is_kind_below : Fn := { name := "is_kind_below", N := ["value", "free", "under", "words", "k"], P := ["value", "free", "under", "words"], frz := false, body := b_is_kind_below }
abbrev b_is_kind : Ss := .cons (.ret (.call 9 (.cons (.var 1) (.cons (.var 0) (.cons (.con (.int 0)) (.cons (.var 2) .nil)))))) .nil
abbrev f_is_kind : Fn := { name := "is_kind", N := ["free", "value", "words"], P := ["free", "value", "words"], frz := false, body := b_is_kind }
abbrev i_put_below_0 : I := .ev (.call 6 (.cons (.var 0) .nil))
abbrev x_put_below_0 : E := .call 11 (.cons (.var 5) (.cons (.var 4) (.cons (.var 2) .nil)))
abbrev c_put_below_0 : E := .miss
abbrev e_put_below_0 : E := .lc (.v 5) i_put_below_0 c_put_below_0 x_put_below_0
abbrev b_put_below : Ss := .cons (.ite (.cmp .eq (.idx (.var 0) (.con (.int 0))) (.con (.str "var"))) (.cons (.asg 3 (.bin .sub (.idx (.var 0) (.con (.int 1))) (.var 1))) (.cons (.ite (.cmp .lt (.var 3) (.con (.int 0))) (.cons (.ret (.var 0)) .nil) (.nil)) (.cons (.ret (.ite (.cmp .lt (.var 3) (.bf .len (.cons (.var 2) .nil))) (.idx (.var 2) (.var 3)) (.tup (.cons (.con (.str "var")) (.cons (.bin .sub (.idx (.var 0) (.con (.int 1))) (.bf .len (.cons (.var 2) .nil))) .nil))))) .nil))) (.nil)) (.cons (.asg 4 (.bin .add (.var 1) (.call 7 (.cons (.var 0) .nil)))) (.cons (.ret (.call 8 (.cons (.var 0) (.cons (.bf .tuple (.cons (e_put_below_0) .nil)) .nil)))) .nil))
abbrev f_put_below : Fn := { name := "put_below", N := ["kind", "under", "kinds", "at", "more", "k"], P := ["kind", "under", "kinds"], frz := false, body := b_put_below }
abbrev i_opened_0 : I := .ev (.call 6 (.cons (.var 0) .nil))
abbrev x_opened_0 : E := .call 11 (.cons (.var 3) (.cons (.con (.int 0)) (.cons (.var 1) .nil)))
abbrev c_opened_0 : E := .miss
abbrev e_opened_0 : E := .lc (.v 3) i_opened_0 c_opened_0 x_opened_0
abbrev b_opened : Ss := .cons (.asg 2 (.call 8 (.cons (.var 0) (.cons (.bf .tuple (.cons (e_opened_0) .nil)) .nil)))) (.cons (.ite (.cmp .inn (.idx (.var 0) (.con (.int 0))) (.tup (.cons (.con (.str "some")) (.cons (.con (.str "rec")) .nil)))) (.cons (.ret (.idx (.var 2) (.con (.int 1)))) .nil) (.nil)) (.cons (.ret (.ite (.cmp .eq (.idx (.var 0) (.con (.int 0))) (.con (.str "to"))) (.tup (.cons (.idx (.var 2) (.con (.int 2))) (.cons (.idx (.var 2) (.con (.int 3))) .nil))) (.idx (.var 2) (.con (.int 2))))) .nil))
abbrev f_opened : Fn := { name := "opened", N := ["kind", "kinds", "inside", "k"], P := ["kind", "kinds"], frz := false, body := b_opened }
abbrev b_unfolded : Ss := .cons (.ret (.call 12 (.cons (.var 0) (.cons (.tup (.cons (.var 0) .nil)) .nil)))) .nil
abbrev f_unfolded : Fn := { name := "unfolded", N := ["kind"], P := ["kind"], frz := false, body := b_unfolded }
abbrev i_raised_0 : I := .ev (.call 6 (.cons (.var 0) .nil))
abbrev x_raised_0 : E := .call 14 (.cons (.var 3) (.cons (.var 2) .nil))
abbrev c_raised_0 : E := .miss
abbrev e_raised_0 : E := .lc (.v 3) i_raised_0 c_raised_0 x_raised_0
abbrev b_raised : Ss := .cons (.ite (.cmp .eq (.idx (.var 0) (.con (.int 0))) (.con (.str "var"))) (.cons (.ret (.ite (.cmp .ge (.idx (.var 0) (.con (.int 1))) (.var 1)) (.tup (.cons (.con (.str "var")) (.cons (.bin .add (.idx (.var 0) (.con (.int 1))) (.con (.int 1))) .nil))) (.var 0))) .nil) (.nil)) (.cons (.asg 2 (.bin .add (.var 1) (.call 7 (.cons (.var 0) .nil)))) (.cons (.ret (.call 8 (.cons (.var 0) (.cons (.bf .tuple (.cons (e_raised_0) .nil)) .nil)))) .nil))
abbrev f_raised : Fn := { name := "raised", N := ["kind", "floor", "more", "one"], P := ["kind", "floor"], frz := false, body := b_raised }
abbrev i_hidden_pairs_0 : I := .ev (.call 6 (.cons (.var 0) .nil))
abbrev x_hidden_pairs_0 : E := .call 15 (.cons (.var 2) .nil)
abbrev c_hidden_pairs_0 : E := .miss
abbrev e_hidden_pairs_0 : E := .lc (.v 2) i_hidden_pairs_0 c_hidden_pairs_0 x_hidden_pairs_0
abbrev i_hidden_pairs_1 : I := .ev (.var 1)
abbrev x_hidden_pairs_1 : E := .call 14 (.cons (.var 2) (.cons (.var 3) .nil))
abbrev c_hidden_pairs_1 : E := .miss
abbrev e_hidden_pairs_1 : E := .lc (.v 2) i_hidden_pairs_1 c_hidden_pairs_1 x_hidden_pairs_1
abbrev b_hidden_pairs : Ss := .cons (.asg 1 (.bf .tuple (.cons (e_hidden_pairs_0) .nil))) (.cons (.ite (.cmp .ne (.idx (.var 0) (.con (.int 0))) (.con (.str "not"))) (.cons (.ret (.call 8 (.cons (.var 0) (.cons (.var 1) .nil)))) .nil) (.nil)) (.cons (.asg 3 (.idx (.var 0) (.con (.int 1)))) (.cons (.asg 4 (.bin .add (.tup (.cons (.tup (.cons (.con (.str "var")) (.cons (.var 3) .nil))) .nil)) (.bf .tuple (.cons (e_hidden_pairs_1) .nil)))) (.cons (.ret (.tup (.cons (.con (.str "some")) (.cons (.tup (.cons (.con (.str "row")) (.cons (.tup (.cons (.tup (.cons (.con (.str "not")) (.cons (.var 3) (.cons (.var 4) .nil)))) (.cons (.tup (.cons (.con (.str "var")) (.cons (.con (.int 0)) .nil))) .nil))) .nil))) .nil)))) .nil))))
abbrev f_hidden_pairs : Fn := { name := "hidden_pairs", N := ["kind", "inside", "one", "many", "kinds"], P := ["kind"], frz := false, body := b_hidden_pairs }
abbrev b_closed_kind : Ss := .cons (.ite (.not (.call 10 (.cons (.glo 2) (.cons (.var 0) (.cons (.glo 1) .nil))))) (.cons (.raise_ "InvalidKind") .nil) (.nil)) (.cons (.ret (.call 15 (.cons (.var 0) .nil))) .nil)
abbrev f_closed_kind : Fn := { name := "closed_kind", N := ["kind"], P := ["kind"], frz := false, body := b_closed_kind, kw := [(0, ["kind"], [0])] }
abbrev i__law_spring_0 : I := .ev (.var 0)
abbrev x__law_spring_0 : E := .bin .sub (.var 2) (.bin .pow (.con (.int 10)) (.con (.int 18)))
abbrev c__law_spring_0 : E := .cmp .ge (.var 2) (.bin .pow (.con (.int 10)) (.con (.int 18)))
abbrev e__law_spring_0 : E := .lc (.v 2) i__law_spring_0 c__law_spring_0 x__law_spring_0
abbrev b__law_spring : Ss := .cons (.asgLc 1 (.new (e__law_spring_0))) (.cons (.asg 3 (.bin .add (.con (.int 15485863)) (.bin .mul (.con (.int 2)) (.bf .len (.cons (.var 0) .nil))))) (.cons (.for_ (.v 2) (.ev (.var 0)) (.cons (.asg 3 (.bin .mod (.bf .int (.cons (.bin .add (.bin .add (.bin .mul (.var 3) (.con (.int 982451653))) (.bin .mul (.var 2) (.con (.int 49979687)))) (.con (.int 32452843))) .nil)) (.con (.int 2305843009213693951)))) .nil)) (.cons (.ret (.new (.lst (.cons (.var 1) (.cons (.var 3) (.cons (.con (.int 0)) .nil)))))) .nil)))
abbrev f__law_spring : Fn := { name := "_law_spring", N := ["script", "great", "cell", "mixed"], P := ["script"], frz := false, body := b__law_spring }
abbrev b__law_drop : Ss := .cons (.asg 2 (.idx (.var 0) (.con (.int 0)))) (.cons (.whl (.and (.cmp .ne (.var 2) (.lst (.nil))) (.cons (.cmp .eq (.idx (.var 2) (.con (.int 0))) (.con (.int 0))) .nil)) (.cons (.exp (.mth .popAt (.var 2) (.cons (.con (.int 0)) .nil))) .nil)) (.cons (.ite (.cmp .ne (.var 2) (.lst (.nil))) (.cons (.asg 3 (.bin .mod (.bf .int (.cons (.idx (.var 2) (.con (.int 0))) .nil)) (.var 1))) (.cons (.sto (.var 2) (.con (.int 0)) (.bin .fdiv (.idx (.var 2) (.con (.int 0))) (.var 1))) (.cons (.ret (.var 3)) .nil))) (.nil)) (.cons (.sto (.var 0) (.con (.int 2)) (.bin .add (.idx (.var 0) (.con (.int 2))) (.con (.int 1)))) (.cons (.sto (.var 0) (.con (.int 1)) (.bin .mod (.bf .int (.cons (.bin .add (.bin .mul (.idx (.var 0) (.con (.int 1))) (.con (.int 6364136223846793005))) (.bin .mul (.idx (.var 0) (.con (.int 2))) (.con (.int 1442695040888963407)))) .nil)) (.con (.int 2305843009213693951)))) (.cons (.ret (.bin .mod (.bin .fdiv (.bin .mod (.bf .int (.cons (.bin .mul (.idx (.var 0) (.con (.int 1))) (.idx (.var 0) (.con (.int 1)))) .nil)) (.con (.int 2305843009213693921))) (.con (.int 1048576))) (.var 1))) .nil)))))
abbrev f__law_drop : Fn := { name := "_law_drop", N := ["spring", "many", "great", "found"], P := ["spring", "many"], frz := false, body := b__law_drop }
abbrev b__law_kinds : Ss := .cons (.asg 1 (.lst (.cons (.isi (.var 0) .bl) (.cons (.isi (.var 0) .int) (.cons (.isi (.var 0) .str) .nil))))) (.cons (.ret (.bin .add (.var 1) (.lst (.cons (.isi (.var 0) .tup) (.cons (.isi (.var 0) .lst) (.cons (.cmp .is (.var 0) (.con (.non))) .nil)))))) .nil)
abbrev f__law_kinds : Fn := { name := "_law_kinds", N := ["thing", "found"], P := ["thing"], frz := false, body := b__law_kinds }
abbrev i__law_alike_0 : I := .rng (.bf .len (.cons (.var 1) .nil))
abbrev x__law_alike_0 : E := .call 20 (.cons (.idx (.var 0) (.var 2)) (.cons (.idx (.var 1) (.var 2)) .nil))
abbrev c__law_alike_0 : E := .miss
abbrev e__law_alike_0 : E := .lc (.v 2) i__law_alike_0 c__law_alike_0 x__law_alike_0
abbrev b__law_alike : Ss := .cons (.ite (.cmp .ne (.call 19 (.cons (.var 0) .nil)) (.call 19 (.cons (.var 1) .nil))) (.cons (.ret (.con (.bl false))) .nil) (.nil)) (.cons (.ite (.isi2 (.var 1)) (.cons (.ret (.and (.cmp .eq (.bf .len (.cons (.var 0) .nil)) (.bf .len (.cons (.var 1) .nil))) (.cons (.bf .all (.cons (e__law_alike_0) .nil)) .nil))) .nil) (.nil)) (.cons (.ret (.cmp .eq (.var 0) (.var 1))) .nil))
abbrev f__law_alike : Fn := { name := "_law_alike", N := ["found", "due", "k"], P := ["found", "due"], frz := false, body := b__law_alike }
abbrev b__law_in : Ss := .cons (.ite (.cmp .inn (.idx (.var 0) (.con (.int 0))) (.lst (.cons (.con (.str "row")) (.cons (.con (.str "one")) .nil)))) (.cons (.ret (.tup (.cons (.bf .list (.cons (.idx (.var 0) (.con (.int 1))) .nil)) (.cons (.con (.int 0)) .nil)))) .nil) (.nil)) (.cons (.ite (.cmp .eq (.idx (.var 0) (.con (.int 0))) (.con (.str "cell"))) (.cons (.ret (.tup (.cons (.lst (.cons (.idx (.var 0) (.con (.int 1))) .nil)) (.cons (.con (.int 0)) .nil)))) .nil) (.nil)) (.cons (.ite (.cmp .inn (.idx (.var 0) (.con (.int 0))) (.lst (.cons (.con (.str "some")) (.cons (.con (.str "rec")) .nil)))) (.cons (.ret (.tup (.cons (.lst (.cons (.idx (.var 0) (.con (.int 1))) .nil)) (.cons (.con (.int 1)) .nil)))) .nil) (.nil)) (.cons (.ite (.cmp .eq (.idx (.var 0) (.con (.int 0))) (.con (.str "not"))) (.cons (.ret (.tup (.cons (.bf .list (.cons (.idx (.var 0) (.con (.int 2))) .nil)) (.cons (.idx (.var 0) (.con (.int 1))) .nil)))) .nil) (.nil)) (.cons (.ret (.tup (.cons (.lst (.nil)) (.cons (.con (.int 0)) .nil)))) .nil))))
abbrev f__law_in : Fn := { name := "_law_in", N := ["kind"], P := ["kind"], frz := false, body := b__law_in }
abbrev b__law_with : Ss := .cons (.ite (.cmp .inn (.idx (.var 0) (.con (.int 0))) (.lst (.cons (.con (.str "row")) (.cons (.con (.str "one")) .nil)))) (.cons (.ret (.tup (.cons (.idx (.var 0) (.con (.int 0))) (.cons (.bf .tuple (.cons (.var 1) .nil)) .nil)))) .nil) (.nil)) (.cons (.ite (.cmp .eq (.idx (.var 0) (.con (.int 0))) (.con (.str "not"))) (.cons (.ret (.tup (.cons (.con (.str "not")) (.cons (.idx (.var 0) (.con (.int 1))) (.cons (.bf .tuple (.cons (.var 1) .nil)) .nil))))) .nil) (.nil)) (.cons (.ret (.ite (.cmp .ne (.var 1) (.lst (.nil))) (.tup (.cons (.idx (.var 0) (.con (.int 0))) (.cons (.idx (.var 1) (.con (.int 0))) .nil))) (.var 0))) .nil))
abbrev f__law_with : Fn := { name := "_law_with", N := ["kind", "inside"], P := ["kind", "inside"], frz := false, body := b__law_with }
abbrev i__law_put_0 : I := .ev (.var 4)
abbrev x__law_put_0 : E := .call 23 (.cons (.var 6) (.cons (.bin .add (.var 1) (.var 5)) (.cons (.var 2) .nil)))
abbrev c__law_put_0 : E := .miss
abbrev e__law_put_0 : E := .lc (.v 6) i__law_put_0 c__law_put_0 x__law_put_0
abbrev b__law_put : Ss := .cons (.ite (.cmp .eq (.idx (.var 0) (.con (.int 0))) (.con (.str "var"))) (.cons (.asg 3 (.bin .sub (.idx (.var 0) (.con (.int 1))) (.var 1))) (.cons (.ite (.cmp .lt (.var 3) (.con (.int 0))) (.cons (.ret (.var 0)) .nil) (.nil)) (.cons (.ret (.ite (.cmp .lt (.var 3) (.bf .len (.cons (.var 2) .nil))) (.idx (.var 2) (.var 3)) (.tup (.cons (.con (.str "var")) (.cons (.bin .sub (.idx (.var 0) (.con (.int 1))) (.bf .len (.cons (.var 2) .nil))) .nil))))) .nil))) (.nil)) (.cons (.unp [4, 5] (.call 21 (.cons (.var 0) .nil))) (.cons (.ret (.call 22 (.cons (.var 0) (.cons (e__law_put_0) .nil)))) .nil))
abbrev f__law_put : Fn := { name := "_law_put", N := ["kind", "under", "kinds", "at", "inside", "more", "one"], P := ["kind", "under", "kinds"], frz := false, body := b__law_put }
abbrev i__law_shut_0 : I := .ev (.var 3)
abbrev x__law_shut_0 : E := .call 24 (.cons (.var 5) (.cons (.bin .add (.var 1) (.var 4)) (.cons (.var 2) .nil)))
abbrev c__law_shut_0 : E := .miss
abbrev e__law_shut_0 : E := .lc (.v 5) i__law_shut_0 c__law_shut_0 x__law_shut_0
abbrev b__law_shut : Ss := .cons (.ite (.cmp .eq (.idx (.var 0) (.con (.int 0))) (.con (.str "free"))) (.cons (.ret (.ite (.cmp .ge (.idx (.var 0) (.con (.int 1))) (.var 2)) (.tup (.cons (.con (.str "var")) (.cons (.bin .sub (.bin .add (.var 1) (.idx (.var 0) (.con (.int 1)))) (.var 2)) .nil))) (.var 0))) .nil) (.nil)) (.cons (.unp [3, 4] (.call 21 (.cons (.var 0) .nil))) (.cons (.ret (.call 22 (.cons (.var 0) (.cons (e__law_shut_0) .nil)))) .nil))
abbrev f__law_shut : Fn := { name := "_law_shut", N := ["kind", "under", "first", "inside", "more", "one"], P := ["kind", "under", "first"], frz := false, body := b__law_shut }
abbrev i__law_some_kind_0 : I := .rng (.call 18 (.cons (.var 0) (.cons (.var 4) .nil)))
abbrev x__law_some_kind_0 : E := .call 25 (.cons (.var 0) (.cons (.var 1) (.cons (.bin .sub (.var 2) (.con (.int 1))) .nil)))
abbrev c__law_some_kind_0 : E := .miss
abbrev e__law_some_kind_0 : E := .lc (.v 5) i__law_some_kind_0 c__law_some_kind_0 x__law_some_kind_0
abbrev i__law_some_kind_1 : I := .rng (.bin .add (.con (.int 1)) (.call 18 (.cons (.var 0) (.cons (.bin .sub (.var 4) (.con (.int 1))) .nil))))
abbrev x__law_some_kind_1 : E := .call 25 (.cons (.var 0) (.cons (.var 1) (.cons (.bin .sub (.var 2) (.con (.int 1))) .nil)))
abbrev c__law_some_kind_1 : E := .miss
abbrev e__law_some_kind_1 : E := .lc (.v 5) i__law_some_kind_1 c__law_some_kind_1 x__law_some_kind_1
abbrev i__law_some_kind_2 : I := .rng (.call 18 (.cons (.var 0) (.cons (.var 4) .nil)))
abbrev x__law_some_kind_2 : E := .call 25 (.cons (.var 0) (.cons (.bin .add (.var 1) (.var 7)) (.cons (.bin .sub (.var 2) (.con (.int 1))) .nil)))
abbrev c__law_some_kind_2 : E := .miss
abbrev e__law_some_kind_2 : E := .lc (.v 5) i__law_some_kind_2 c__law_some_kind_2 x__law_some_kind_2
abbrev i__law_some_kind_3 : I := .ev (.var 8)
abbrev x__law_some_kind_3 : E := .call 24 (.cons (.var 9) (.cons (.con (.int 0)) (.cons (.var 1) .nil)))
abbrev c__law_some_kind_3 : E := .miss
abbrev e__law_some_kind_3 : E := .lc (.v 9) i__law_some_kind_3 c__law_some_kind_3 x__law_some_kind_3
abbrev b__law_some_kind : Ss := .cons (.asg 3 (.call 18 (.cons (.var 0) (.cons (.idx (.lst (.cons (.con (.int 3)) (.cons (.con (.int 12)) .nil))) (.bf .int (.cons (.cmp .gt (.var 2) (.con (.int 0))) .nil))) .nil)))) (.cons (.ite (.or (.cmp .lt (.var 3) (.con (.int 2))) (.cons (.and (.cmp .eq (.var 3) (.con (.int 2))) (.cons (.cmp .eq (.var 1) (.con (.int 0))) .nil)) .nil)) (.cons (.ret (.tup (.cons (.con (.str "int")) .nil))) .nil) (.nil)) (.cons (.ite (.cmp .eq (.var 3) (.con (.int 2))) (.cons (.ret (.tup (.cons (.con (.str "free")) (.cons (.call 18 (.cons (.var 0) (.cons (.var 1) .nil))) .nil)))) .nil) (.nil)) (.cons (.asg 4 (.idx (.lst (.cons (.con (.int 4)) (.cons (.con (.int 4)) (.cons (.con (.int 4)) (.cons (.con (.int 7)) .nil))))) (.call 18 (.cons (.var 0) (.cons (.con (.int 4)) .nil))))) (.cons (.ite (.or (.cmp .eq (.var 3) (.con (.int 3))) (.cons (.cmp .eq (.var 3) (.con (.int 4))) .nil)) (.cons (.ret (.tup (.cons (.con (.str "row")) (.cons (.bf .tuple (.cons (e__law_some_kind_0) .nil)) .nil)))) .nil) (.nil)) (.cons (.ite (.cmp .eq (.var 3) (.con (.int 5))) (.cons (.ret (.tup (.cons (.con (.str "one")) (.cons (.bf .tuple (.cons (e__law_some_kind_1) .nil)) .nil)))) .nil) (.nil)) (.cons (.ite (.cmp .eq (.var 3) (.con (.int 6))) (.cons (.ret (.tup (.cons (.con (.str "cell")) (.cons (.call 25 (.cons (.var 0) (.cons (.var 1) (.cons (.bin .sub (.var 2) (.con (.int 1))) .nil)))) .nil)))) .nil) (.nil)) (.cons (.ite (.cmp .lt (.var 3) (.con (.int 11))) (.cons (.asg 6 (.call 25 (.cons (.var 0) (.cons (.bin .add (.var 1) (.con (.int 1))) (.cons (.bin .sub (.var 2) (.con (.int 1))) .nil))))) (.cons (.ite (.cmp .eq (.var 3) (.con (.int 7))) (.cons (.asg 6 (.tup (.cons (.con (.str "row")) (.cons (.tup (.cons (.tup (.cons (.con (.str "free")) (.cons (.var 1) .nil))) (.cons (.tup (.cons (.con (.str "not")) (.cons (.con (.int 0)) (.cons (.tup (.cons (.tup (.cons (.con (.str "free")) (.cons (.var 1) .nil))) (.cons (.tup (.cons (.con (.str "not")) (.cons (.con (.int 0)) (.cons (.tup (.cons (.var 6) .nil)) .nil)))) .nil))) .nil)))) .nil))) .nil)))) .nil) (.nil)) (.cons (.ite (.cmp .eq (.var 3) (.con (.int 8))) (.cons (.asg 6 (.tup (.cons (.con (.str "one")) (.cons (.tup (.cons (.tup (.cons (.con (.str "row")) (.cons (.tup (.nil)) .nil))) (.cons (.tup (.cons (.con (.str "row")) (.cons (.tup (.cons (.var 6) (.cons (.tup (.cons (.con (.str "free")) (.cons (.var 1) .nil))) .nil))) .nil))) .nil))) .nil)))) .nil) (.nil)) (.cons (.ite (.and (.cmp .eq (.var 3) (.con (.int 10))) (.cons (.cmp .eq (.idx (.var 6) (.con (.int 0))) (.con (.str "free"))) .nil)) (.cons (.asg 6 (.tup (.cons (.con (.str "not")) (.cons (.con (.int 0)) (.cons (.tup (.cons (.var 6) .nil)) .nil))))) .nil) (.nil)) (.cons (.ret (.tup (.cons (.idx (.lst (.cons (.con (.str "some")) (.cons (.con (.str "rec")) (.cons (.con (.str "some")) (.cons (.con (.str "rec")) .nil))))) (.bin .sub (.var 3) (.con (.int 7)))) (.cons (.call 24 (.cons (.var 6) (.cons (.con (.int 0)) (.cons (.var 1) .nil)))) .nil)))) .nil))))) (.nil)) (.cons (.asg 7 (.call 18 (.cons (.var 0) (.cons (.idx (.lst (.cons (.con (.int 3)) (.cons (.con (.int 3)) (.cons (.con (.int 3)) (.cons (.con (.int 6)) .nil))))) (.call 18 (.cons (.var 0) (.cons (.con (.int 4)) .nil)))) .nil)))) (.cons (.asgLc 8 (e__law_some_kind_2)) (.cons (.ret (.tup (.cons (.con (.str "not")) (.cons (.var 7) (.cons (.bf .tuple (.cons (e__law_some_kind_3) .nil)) .nil))))) .nil))))))))))
abbrev f__law_some_kind : Fn := { name := "_law_some_kind", N := ["spring", "free", "deep", "way", "size", "k", "inside", "many", "kinds", "one"], P := ["spring", "free", "deep"], frz := false, body := b__law_some_kind }
abbrev i__law_up_0 : I := .ev (.var 2)
abbrev x__law_up_0 : E := .call 26 (.cons (.var 4) (.cons (.bin .add (.var 1) (.var 3)) .nil))
abbrev c__law_up_0 : E := .miss
abbrev e__law_up_0 : E := .lc (.v 4) i__law_up_0 c__law_up_0 x__law_up_0
abbrev b__law_up : Ss := .cons (.ite (.cmp .eq (.idx (.var 0) (.con (.int 0))) (.con (.str "var"))) (.cons (.ret (.tup (.cons (.con (.str "var")) (.cons (.bin .add (.idx (.var 0) (.con (.int 1))) (.bf .int (.cons (.cmp .ge (.idx (.var 0) (.con (.int 1))) (.var 1)) .nil))) .nil)))) .nil) (.nil)) (.cons (.unp [2, 3] (.call 21 (.cons (.var 0) .nil))) (.cons (.ret (.call 22 (.cons (.var 0) (.cons (e__law_up_0) .nil)))) .nil))
abbrev f__law_up : Fn := { name := "_law_up", N := ["kind", "floor", "inside", "more", "one"], P := ["kind", "floor"], frz := false, body := b__law_up }
abbrev i__law_closed_0 : I := .ev (.var 1)
abbrev x__law_closed_0 : E := .call 27 (.cons (.var 3) .nil)
abbrev c__law_closed_0 : E := .miss
abbrev e__law_closed_0 : E := .lc (.v 3) i__law_closed_0 c__law_closed_0 x__law_closed_0
abbrev i__law_closed_1 : I := .ev (.var 1)
abbrev x__law_closed_1 : E := .call 26 (.cons (.var 3) (.cons (.var 2) .nil))
abbrev c__law_closed_1 : E := .miss
abbrev e__law_closed_1 : E := .lc (.v 3) i__law_closed_1 c__law_closed_1 x__law_closed_1
abbrev b__law_closed : Ss := .cons (.unp [1, 2] (.call 21 (.cons (.var 0) .nil))) (.cons (.asgLc 1 (e__law_closed_0)) (.cons (.ite (.cmp .ne (.idx (.var 0) (.con (.int 0))) (.con (.str "not"))) (.cons (.ret (.call 22 (.cons (.var 0) (.cons (.var 1) .nil)))) .nil) (.nil)) (.cons (.asg 4 (.bin .add (.lst (.cons (.tup (.cons (.con (.str "var")) (.cons (.var 2) .nil))) .nil)) (e__law_closed_1))) (.cons (.ret (.tup (.cons (.con (.str "some")) (.cons (.tup (.cons (.con (.str "row")) (.cons (.tup (.cons (.tup (.cons (.con (.str "not")) (.cons (.var 2) (.cons (.bf .tuple (.cons (.var 4) .nil)) .nil)))) (.cons (.tup (.cons (.con (.str "var")) (.cons (.con (.int 0)) .nil))) .nil))) .nil))) .nil)))) .nil))))
abbrev f__law_closed : Fn := { name := "_law_closed", N := ["kind", "inside", "more", "one", "kinds"], P := ["kind"], frz := false, body := b__law_closed }
abbrev i__law_is_kind_0 : I := .ev (.idx (.var 3) (.con (.int 0)))
abbrev x__law_is_kind_0 : E := .call 28 (.cons (.var 5) (.cons (.var 1) .nil))
abbrev c__law_is_kind_0 : E := .miss
abbrev e__law_is_kind_0 : E := .lc (.v 5) i__law_is_kind_0 c__law_is_kind_0 x__law_is_kind_0
abbrev i__law_is_kind_1 : I := .ev (.idx (.var 3) (.con (.int 1)))
abbrev x__law_is_kind_1 : E := .call 28 (.cons (.var 5) (.cons (.bin .add (.var 1) (.idx (.var 3) (.con (.int 0)))) .nil))
abbrev c__law_is_kind_1 : E := .miss
abbrev e__law_is_kind_1 : E := .lc (.v 5) i__law_is_kind_1 c__law_is_kind_1 x__law_is_kind_1
abbrev b__law_is_kind : Ss := .cons (.ite (.or (.not (.isi (.var 0) .tup)) (.cons (.cmp .eq (.var 0) (.tup (.nil))) (.cons (.not (.isi (.idx (.var 0) (.con (.int 0))) .str)) .nil))) (.cons (.ret (.con (.bl false))) .nil) (.nil)) (.cons (.unp [2, 3] (.tup (.cons (.idx (.var 0) (.con (.int 0))) (.cons (.slc (.var 0) (.con (.int 1)) (.miss)) .nil)))) (.cons (.ite (.cmp .eq (.var 2) (.con (.str "int"))) (.cons (.ret (.cmp .eq (.var 3) (.tup (.nil)))) .nil) (.nil)) (.cons (.ite (.cmp .inn (.var 2) (.lst (.cons (.con (.str "free")) (.cons (.con (.str "var")) .nil)))) (.cons (.asg 4 (.and (.cmp .eq (.bf .len (.cons (.var 3) .nil)) (.con (.int 1))) (.cons (.isi (.idx (.var 3) (.con (.int 0))) .int) (.cons (.not (.isi (.idx (.var 3) (.con (.int 0))) .bl)) (.cons (.cmp .ge (.idx (.var 3) (.con (.int 0))) (.con (.int 0))) .nil))))) (.cons (.ret (.and (.var 4) (.cons (.or (.cmp .eq (.var 2) (.con (.str "free"))) (.cons (.cmp .lt (.idx (.var 3) (.con (.int 0))) (.var 1)) .nil)) .nil))) .nil)) (.nil)) (.cons (.ite (.cmp .inn (.var 2) (.lst (.cons (.con (.str "cell")) (.cons (.con (.str "some")) (.cons (.con (.str "rec")) .nil))))) (.cons (.asg 4 (.and (.cmp .eq (.bf .len (.cons (.var 3) .nil)) (.con (.int 1))) (.cons (.call 28 (.cons (.idx (.var 3) (.con (.int 0))) (.cons (.bin .add (.var 1) (.bf .int (.cons (.cmp .ne (.var 2) (.con (.str "cell"))) .nil))) .nil))) .nil))) (.cons (.ret (.and (.var 4) (.cons (.or (.cmp .ne (.var 2) (.con (.str "rec"))) (.cons (.cmp .nin (.idx (.idx (.var 3) (.con (.int 0))) (.con (.int 0))) (.lst (.cons (.con (.str "free")) (.cons (.con (.str "var")) .nil)))) .nil)) .nil))) .nil)) (.nil)) (.cons (.ite (.cmp .inn (.var 2) (.lst (.cons (.con (.str "row")) (.cons (.con (.str "one")) .nil)))) (.cons (.asg 4 (.and (.cmp .eq (.bf .len (.cons (.var 3) .nil)) (.con (.int 1))) (.cons (.isi (.idx (.var 3) (.con (.int 0))) .tup) (.cons (.or (.cmp .eq (.var 2) (.con (.str "row"))) (.cons (.cmp .ne (.idx (.var 3) (.con (.int 0))) (.tup (.nil))) .nil)) .nil)))) (.cons (.ret (.and (.var 4) (.cons (.bf .all (.cons (e__law_is_kind_0) .nil)) .nil))) .nil)) (.nil)) (.cons (.ite (.or (.cmp .ne (.var 2) (.con (.str "not"))) (.cons (.cmp .ne (.bf .len (.cons (.var 3) .nil)) (.con (.int 2))) (.cons (.not (.isi (.idx (.var 3) (.con (.int 0))) .int)) (.cons (.isi (.idx (.var 3) (.con (.int 0))) .bl) .nil)))) (.cons (.ret (.con (.bl false))) .nil) (.nil)) (.cons (.ite (.or (.not (.chain .le .le (.con (.int 0)) (.idx (.var 3) (.con (.int 0))) (.con (.int 10000)))) (.cons (.not (.isi (.idx (.var 3) (.con (.int 1))) .tup)) .nil)) (.cons (.ret (.con (.bl false))) .nil) (.nil)) (.cons (.ret (.bf .all (.cons (e__law_is_kind_1) .nil))) .nil))))))))
abbrev f__law_is_kind : Fn := { name := "_law_is_kind", N := ["value", "under", "word", "rest", "right", "one"], P := ["value", "under"], frz := false, body := b__law_is_kind }
abbrev b__law_bent : Ss := .cons (.ite (.and (.isi (.var 1) .tup) (.cons (.cmp .ne (.var 1) (.tup (.nil))) (.cons (.cmp .gt (.call 18 (.cons (.var 0) (.cons (.con (.int 9)) .nil))) (.con (.int 0))) .nil))) (.cons (.asg 2 (.call 18 (.cons (.var 0) (.cons (.bf .len (.cons (.var 1) .nil)) .nil)))) (.cons (.ret (.bin .add (.bin .add (.slc (.var 1) (.miss) (.var 2)) (.tup (.cons (.call 29 (.cons (.var 0) (.cons (.idx (.var 1) (.var 2)) .nil))) .nil))) (.slc (.var 1) (.bin .add (.var 2) (.con (.int 1))) (.miss)))) .nil)) (.nil)) (.cons (.asg 3 (.lst (.cons (.con (.int 0)) (.cons (.con (.int 1)) (.cons (.neg (.con (.int 1))) (.cons (.con (.bl true)) (.cons (.con (.non)) (.cons (.con (.str "row")) (.cons (.con (.str "to")) (.cons (.con (.str "x")) (.cons (.tup (.nil)) (.cons (.tup (.cons (.con (.str "int")) .nil)) (.cons (.tup (.cons (.con (.str "int")) (.cons (.con (.int 0)) .nil))) (.cons (.tup (.cons (.con (.str "free")) (.cons (.con (.int 0)) .nil))) (.cons (.tup (.cons (.con (.str "free")) (.cons (.neg (.con (.int 1))) .nil))) (.cons (.tup (.cons (.con (.str "var")) (.cons (.con (.int 0)) .nil))) .nil)))))))))))))))) (.cons (.asg 3 (.bin .add (.var 3) (.lst (.cons (.tup (.cons (.con (.str "var")) (.cons (.con (.int 1)) .nil))) (.cons (.tup (.cons (.con (.str "var")) (.cons (.con (.int 9)) .nil))) (.cons (.tup (.cons (.con (.str "free")) (.cons (.con (.bl true)) .nil))) (.cons (.tup (.cons (.con (.str "row")) (.cons (.tup (.nil)) .nil))) (.cons (.tup (.cons (.con (.str "one")) (.cons (.tup (.nil)) .nil))) (.cons (.tup (.cons (.con (.str "room")) (.cons (.tup (.nil)) .nil))) (.cons (.tup (.cons (.con (.str "to")) (.cons (.con (.int 0)) (.cons (.tup (.nil)) (.cons (.tup (.cons (.con (.str "int")) .nil)) .nil))))) .nil)))))))))) (.cons (.asg 3 (.bin .add (.var 3) (.lst (.cons (.tup (.cons (.con (.str "rec")) (.cons (.tup (.cons (.con (.str "var")) (.cons (.con (.int 0)) .nil))) .nil))) (.cons (.tup (.cons (.con (.str "rec")) (.cons (.tup (.cons (.con (.str "int")) .nil)) .nil))) (.cons (.tup (.cons (.con (.str "some")) (.cons (.tup (.cons (.con (.str "var")) (.cons (.con (.int 0)) .nil))) .nil))) (.cons (.tup (.cons (.con (.str "not")) (.cons (.con (.int 0)) (.cons (.tup (.nil)) .nil)))) (.cons (.tup (.cons (.con (.str "not")) (.cons (.neg (.con (.int 1))) (.cons (.tup (.nil)) .nil)))) (.cons (.lst (.nil)) (.cons (.con (.int 10001)) .nil)))))))))) (.cons (.asg 3 (.bin .add (.var 3) (.lst (.cons (.tup (.cons (.con (.str "not")) (.cons (.con (.int 10001)) (.cons (.tup (.nil)) .nil)))) (.cons (.tup (.cons (.con (.str "code")) (.cons (.con (.int 0)) (.cons (.tup (.nil)) .nil)))) (.cons (.tup (.cons (.con (.str "cell")) .nil)) (.cons (.tup (.cons (.con (.str "row")) (.cons (.lst (.cons (.tup (.cons (.con (.str "int")) .nil)) .nil)) .nil))) (.cons (.tup (.cons (.var 1) (.cons (.var 1) .nil))) (.cons (.lst (.cons (.var 1) .nil)) (.cons (.tup (.cons (.con (.str "all")) (.cons (.tup (.cons (.con (.str "int")) .nil)) .nil))) .nil)))))))))) (.cons (.ret (.idx (.var 3) (.call 18 (.cons (.var 0) (.cons (.con (.int 35)) .nil))))) .nil)))))
abbrev f__law_bent : Fn := { name := "_law_bent", N := ["spring", "tree", "at", "odd"], P := ["spring", "tree"], frz := false, body := b__law_bent }
abbrev b__law_refused : Ss := .cons (.asg 1 (.con (.non))) (.cons (.tryAs (.cons (.expC 16 (.cons (.var 0) .nil)) .nil) "CarriedError" ["InvalidKind"] [] 2 (.cons (.asg 1 (.var 2)) .nil)) (.cons (.ret (.ite (.cmp .isn (.var 1) (.con (.non))) (.idx (.lst (.cons (.con (.str "other")) (.cons (.con (.str "kind")) .nil))) (.bf .int (.cons (.isx (.var 1) "InvalidKind" ["InvalidKind"] []) .nil))) (.con (.str "")))) .nil))
abbrev f__law_refused : Fn := { name := "_law_refused", N := ["value", "caught", "e"], P := ["value"], frz := false, body := b__law_refused }
abbrev i_law_0 : I := .rng (.idx (.var 5) (.con (.int 1)))
abbrev x_law_0 : E := .call 25 (.cons (.var 1) (.cons (.var 4) (.cons (.con (.int 1)) .nil)))
abbrev c_law_0 : E := .miss
abbrev e_law_0 : E := .lc (.v 10) i_law_0 c_law_0 x_law_0
abbrev i_law_1 : I := .ev (.call 12 (.cons (.var 5) (.cons (.var 9) .nil)))
abbrev x_law_1 : E := .call 16 (.cons (.var 11) .nil)
abbrev c_law_1 : E := .miss
abbrev e_law_1 : E := .lc (.v 11) i_law_1 c_law_1 x_law_1
abbrev i_law_2 : I := .ev (.var 9)
abbrev x_law_2 : E := .call 16 (.cons (.var 11) .nil)
abbrev c_law_2 : E := .miss
abbrev e_law_2 : E := .lc (.v 11) i_law_2 c_law_2 x_law_2
abbrev i_law_3 : I := .ev (.var 2)
abbrev x_law_3 : E := .var 17
abbrev c_law_3 : E := .cmp .ne (.cmp .eq (.call 16 (.cons (.var 17) .nil)) (.call 16 (.cons (.var 5) .nil))) (.cmp .eq (.var 17) (.var 5))
abbrev e_law_3 : E := .lc (.v 17) i_law_3 c_law_3 x_law_3
abbrev b_law : Ss := .cons (.asg 1 (.call 17 (.cons (.var 0) .nil))) (.cons (.asg 2 (.new (.lst (.nil)))) (.cons (.for_ (.v 3) (.rng (.con (.int 5))) (.cons (.asg 4 (.call 18 (.cons (.var 1) (.cons (.con (.int 4)) .nil)))) (.cons (.asg 5 (.call 25 (.cons (.var 1) (.cons (.var 4) (.cons (.bin .add (.con (.int 1)) (.call 18 (.cons (.var 1) (.cons (.con (.int 4)) .nil)))) .nil))))) (.cons (.asg 6 (.call 27 (.cons (.var 5) .nil))) (.cons (.ite (.not (.call 20 (.cons (.lst (.cons (.call 16 (.cons (.var 5) .nil)) (.cons (.callK 16 (.nil) (.cons (.var 5) .nil) [0]) .nil))) (.cons (.lst (.cons (.var 6) (.cons (.var 6) .nil))) .nil)))) (.cons (.ret (.con (.bl false))) .nil) (.nil)) (.cons (.exp (.mth .append (.var 2) (.cons (.var 5) .nil))) (.cons (.ite (.cmp .inn (.idx (.var 5) (.con (.int 0))) (.lst (.cons (.con (.str "some")) (.cons (.con (.str "rec")) .nil)))) (.cons (.asg 7 (.call 25 (.cons (.var 1) (.cons (.var 4) (.cons (.con (.int 2)) .nil))))) (.cons (.asg 8 (.lst (.cons (.call 16 (.cons (.call 12 (.cons (.var 5) (.cons (.tup (.cons (.var 7) .nil)) .nil))) .nil)) (.cons (.call 12 (.cons (.call 16 (.cons (.var 5) .nil)) (.cons (.tup (.cons (.call 16 (.cons (.var 7) .nil)) .nil)) .nil))) .nil)))) (.cons (.asg 6 (.call 23 (.cons (.idx (.var 6) (.con (.int 1))) (.cons (.con (.int 0)) (.cons (.lst (.cons (.call 27 (.cons (.var 7) .nil)) .nil)) .nil))))) (.cons (.ite (.not (.call 20 (.cons (.var 8) (.cons (.lst (.cons (.var 6) (.cons (.var 6) .nil))) .nil)))) (.cons (.ret (.con (.bl false))) .nil) (.nil)) .nil)))) (.nil)) (.cons (.ite (.and (.cmp .eq (.idx (.var 5) (.con (.int 0))) (.con (.str "rec"))) (.cons (.not (.call 20 (.cons (.call 16 (.cons (.call 13 (.cons (.var 5) .nil)) .nil)) (.cons (.call 13 (.cons (.call 16 (.cons (.var 5) .nil)) .nil)) .nil)))) .nil)) (.cons (.ret (.con (.bl false))) .nil) (.nil)) (.cons (.ite (.cmp .eq (.idx (.var 5) (.con (.int 0))) (.con (.str "not"))) (.cons (.asg 9 (.bf .tuple (.cons (e_law_0) .nil))) (.cons (.asgLc 8 (e_law_1)) (.cons (.asg 12 (.idx (.idx (.call 12 (.cons (.call 16 (.cons (.var 5) .nil)) (.cons (.tup (.cons (.tup (.cons (.con (.str "free")) (.cons (.var 4) .nil))) .nil)) .nil))) (.con (.int 1))) (.con (.int 0)))) (.cons (.asg 6 (.call 12 (.cons (.var 12) (.cons (.bf .tuple (.cons (e_law_2) .nil)) .nil)))) (.cons (.ite (.or (.not (.call 20 (.cons (.bf .list (.cons (.slc (.var 6) (.con (.int 1)) (.miss)) .nil)) (.cons (.var 8) .nil)))) (.cons (.cmp .ne (.idx (.var 6) (.con (.int 0))) (.tup (.cons (.con (.str "free")) (.cons (.var 4) .nil)))) .nil)) (.cons (.ret (.con (.bl false))) .nil) (.nil)) .nil))))) (.nil)) (.cons (.asg 13 (.call 29 (.cons (.var 1) (.cons (.var 5) .nil)))) (.cons (.ite (.cmp .ne (.call 30 (.cons (.var 13) .nil)) (.idx (.lst (.cons (.con (.str "kind")) (.cons (.con (.str "")) .nil))) (.bf .int (.cons (.call 28 (.cons (.var 13) (.cons (.con (.int 0)) .nil))) .nil)))) (.cons (.ret (.con (.bl false))) .nil) (.nil)) .nil))))))))))) (.cons (.asg 14 (.tup (.cons (.con (.str "not")) (.cons (.con (.int 1)) (.cons (.tup (.cons (.tup (.cons (.con (.str "free")) (.cons (.bin .add (.bin .pow (.con (.int 10)) (.con (.int 60))) (.call 18 (.cons (.var 1) (.cons (.con (.int 9)) .nil)))) .nil))) (.cons (.tup (.cons (.con (.str "var")) (.cons (.con (.int 0)) .nil))) .nil))) .nil))))) (.cons (.asg 15 (.tup (.cons (.con (.str "not")) (.cons (.bin .sub (.con (.int 10000)) (.call 18 (.cons (.var 1) (.cons (.con (.int 2)) .nil)))) (.cons (.tup (.cons (.tup (.cons (.con (.str "var")) (.cons (.con (.int 9998)) .nil))) (.cons (.tup (.cons (.con (.str "rec")) (.cons (.tup (.cons (.con (.str "not")) (.cons (.con (.int 1)) (.cons (.tup (.cons (.tup (.cons (.con (.str "var")) (.cons (.con (.int 0)) .nil))) (.cons (.tup (.cons (.con (.str "var")) (.cons (.con (.int 1)) .nil))) (.cons (.tup (.cons (.con (.str "var")) (.cons (.con (.int 5)) .nil))) .nil)))) .nil)))) .nil))) .nil))) .nil))))) (.cons (.asg 16 (.tup (.cons (.con (.str "not")) (.cons (.con (.int 1)) (.cons (.tup (.cons (.tup (.cons (.con (.str "var")) (.cons (.con (.int 0)) .nil))) (.cons (.tup (.cons (.con (.str "free")) (.cons (.con (.int 1)) .nil))) .nil))) .nil))))) (.cons (.for_ (.v 3) (.rng (.bin .add (.con (.int 3)) (.call 18 (.cons (.var 1) (.cons (.con (.int 5)) .nil))))) (.cons (.asg 16 (.tup (.cons (.con (.str "row")) (.cons (.tup (.cons (.var 16) (.cons (.tup (.cons (.con (.str "cell")) (.cons (.var 16) .nil))) .nil))) .nil)))) .nil)) (.cons (.asg 8 (.lst (.cons (.call 16 (.cons (.var 14) .nil)) (.cons (.call 16 (.cons (.var 15) .nil)) (.cons (.call 16 (.cons (.var 16) .nil)) .nil))))) (.cons (.ite (.not (.call 20 (.cons (.var 8) (.cons (.lst (.cons (.call 27 (.cons (.var 14) .nil)) (.cons (.call 27 (.cons (.var 15) .nil)) (.cons (.call 27 (.cons (.var 16) .nil)) .nil)))) .nil)))) (.cons (.ret (.con (.bl false))) .nil) (.nil)) (.cons (.for_ (.v 5) (.ev (.var 2)) (.cons (.ite (.cmp .ne (e_law_3) (.lst (.nil))) (.cons (.ret (.con (.bl false))) .nil) (.nil)) .nil)) (.cons (.ret (.con (.bl true))) .nil))))))))))
abbrev f_law : Fn := { name := "law", N := ["script", "spring", "seen", "turn", "free", "kind", "due", "put", "told", "puts", "k", "one", "inside", "bent", "far", "wide", "great", "other"], P := ["script"], frz := false, body := b_law }
def T : List Fn := [f_is_integer, f_is_tuple_of, f_is_kinds, f_is_pairs, f_has_form, f_is_rising, f_insides, f_binds, f_with_insides, f_is_kind_below, f_is_kind, f_put_below, f_opened, f_unfolded, f_raised, f_hidden_pairs, f_closed_kind, f__law_spring, f__law_drop, f__law_kinds, f__law_alike, f__law_in, f__law_with, f__law_put, f__law_shut, f__law_some_kind, f__law_up, f__law_closed, f__law_is_kind, f__law_bent, f__law_refused, f_law]
def bs : List Str := ["all", "bool", "int", "isinstance", "len", "list", "range", "str", "tuple", "zip"]
def gn : List Str := ["MOST_BOUND", "TURNS_WORDS", "ENDLESS"]
def xs : List Str := ["InvalidKind", "CarriedError"]
def xm : Xm := ⟨[("InvalidKind", "CarriedError", true)], [("InvalidKind", "InvalidKind", true)], []⟩
-- at: [4, 5, 8, 9, 10, 11, 12, 13, 14, 15, 16, 17, 18, 19, 23, 24, 25, 27, 28, 29, 30, 31, 32, 33, 34, 35, 36, 37, 38, 39, 40, 41]

def top (i : Nat) : Stmt := PySem.Challenge.pw_kindscarried_k32_closed_kinds.main.body.getD i (.Pass ⟨0, 0, 0, 0⟩)
def chk (f : Fn) (i : Nat) : Bool := mSs ⟨f.N, defScope (top i), fun _ => true, bs, T, gn, xs, xm⟩ f.body (defBody (top i))
theorem ok_is_integer : chk f_is_integer 4 = true := by decide +kernel
theorem sc_is_integer : FnScope f_is_integer.N f_is_integer.P (defScope (top 4)) := ⟨rfl, rfl, rfl, by decide +kernel, rfl, by decide +kernel, by decide +kernel⟩
theorem ok_is_tuple_of : chk f_is_tuple_of 5 = true := by decide +kernel
theorem sc_is_tuple_of : FnScope f_is_tuple_of.N f_is_tuple_of.P (defScope (top 5)) := ⟨rfl, rfl, rfl, by decide +kernel, rfl, by decide +kernel, by decide +kernel⟩
theorem ok_is_kinds : chk f_is_kinds 8 = true := by decide +kernel
theorem sc_is_kinds : FnScope f_is_kinds.N f_is_kinds.P (defScope (top 8)) := ⟨rfl, rfl, rfl, by decide +kernel, rfl, by decide +kernel, by decide +kernel⟩
theorem ok_is_pairs : chk f_is_pairs 9 = true := by decide +kernel
theorem sc_is_pairs : FnScope f_is_pairs.N f_is_pairs.P (defScope (top 9)) := ⟨rfl, rfl, rfl, by decide +kernel, rfl, by decide +kernel, by decide +kernel⟩
theorem ok_has_form : chk f_has_form 10 = true := by decide +kernel
theorem sc_has_form : FnScope f_has_form.N f_has_form.P (defScope (top 10)) := ⟨rfl, rfl, rfl, by decide +kernel, rfl, by decide +kernel, by decide +kernel⟩
theorem ok_is_rising : chk f_is_rising 11 = true := by decide +kernel
theorem sc_is_rising : FnScope f_is_rising.N f_is_rising.P (defScope (top 11)) := ⟨rfl, rfl, rfl, by decide +kernel, rfl, by decide +kernel, by decide +kernel⟩
theorem ok_insides : chk f_insides 12 = true := by decide +kernel
theorem sc_insides : FnScope f_insides.N f_insides.P (defScope (top 12)) := ⟨rfl, rfl, rfl, by decide +kernel, rfl, by decide +kernel, by decide +kernel⟩
theorem ok_binds : chk f_binds 13 = true := by decide +kernel
theorem sc_binds : FnScope f_binds.N f_binds.P (defScope (top 13)) := ⟨rfl, rfl, rfl, by decide +kernel, rfl, by decide +kernel, by decide +kernel⟩
theorem ok_with_insides : chk f_with_insides 14 = true := by decide +kernel
theorem sc_with_insides : FnScope f_with_insides.N f_with_insides.P (defScope (top 14)) := ⟨rfl, rfl, rfl, by decide +kernel, rfl, by decide +kernel, by decide +kernel⟩
theorem ok_is_kind_below : chk f_is_kind_below 15 = true := by decide +kernel
theorem sc_is_kind_below : FnScope f_is_kind_below.N f_is_kind_below.P (defScope (top 15)) := ⟨rfl, rfl, rfl, by decide +kernel, rfl, by decide +kernel, by decide +kernel⟩
theorem ok_is_kind : chk f_is_kind 16 = true := by decide +kernel
theorem sc_is_kind : FnScope f_is_kind.N f_is_kind.P (defScope (top 16)) := ⟨rfl, rfl, rfl, by decide +kernel, rfl, by decide +kernel, by decide +kernel⟩
theorem ok_put_below : chk f_put_below 17 = true := by decide +kernel
theorem sc_put_below : FnScope f_put_below.N f_put_below.P (defScope (top 17)) := ⟨rfl, rfl, rfl, by decide +kernel, rfl, by decide +kernel, by decide +kernel⟩
theorem ok_opened : chk f_opened 18 = true := by decide +kernel
theorem sc_opened : FnScope f_opened.N f_opened.P (defScope (top 18)) := ⟨rfl, rfl, rfl, by decide +kernel, rfl, by decide +kernel, by decide +kernel⟩
theorem ok_unfolded : chk f_unfolded 19 = true := by decide +kernel
theorem sc_unfolded : FnScope f_unfolded.N f_unfolded.P (defScope (top 19)) := ⟨rfl, rfl, rfl, by decide +kernel, rfl, by decide +kernel, by decide +kernel⟩
theorem ok_raised : chk f_raised 23 = true := by decide +kernel
theorem sc_raised : FnScope f_raised.N f_raised.P (defScope (top 23)) := ⟨rfl, rfl, rfl, by decide +kernel, rfl, by decide +kernel, by decide +kernel⟩
theorem ok_hidden_pairs : chk f_hidden_pairs 24 = true := by decide +kernel
theorem sc_hidden_pairs : FnScope f_hidden_pairs.N f_hidden_pairs.P (defScope (top 24)) := ⟨rfl, rfl, rfl, by decide +kernel, rfl, by decide +kernel, by decide +kernel⟩
theorem ok_closed_kind : chk f_closed_kind 25 = true := by decide +kernel
theorem sc_closed_kind : FnScope f_closed_kind.N f_closed_kind.P (defScope (top 25)) := ⟨rfl, rfl, rfl, by decide +kernel, rfl, by decide +kernel, by decide +kernel⟩
theorem ok__law_spring : chk f__law_spring 27 = true := by decide +kernel
theorem sc__law_spring : FnScope f__law_spring.N f__law_spring.P (defScope (top 27)) := ⟨rfl, rfl, rfl, by decide +kernel, rfl, by decide +kernel, by decide +kernel⟩
theorem ok__law_drop : chk f__law_drop 28 = true := by decide +kernel
theorem sc__law_drop : FnScope f__law_drop.N f__law_drop.P (defScope (top 28)) := ⟨rfl, rfl, rfl, by decide +kernel, rfl, by decide +kernel, by decide +kernel⟩
theorem ok__law_kinds : chk f__law_kinds 29 = true := by decide +kernel
theorem sc__law_kinds : FnScope f__law_kinds.N f__law_kinds.P (defScope (top 29)) := ⟨rfl, rfl, rfl, by decide +kernel, rfl, by decide +kernel, by decide +kernel⟩
theorem ok__law_alike : chk f__law_alike 30 = true := by decide +kernel
theorem sc__law_alike : FnScope f__law_alike.N f__law_alike.P (defScope (top 30)) := ⟨rfl, rfl, rfl, by decide +kernel, rfl, by decide +kernel, by decide +kernel⟩
theorem ok__law_in : chk f__law_in 31 = true := by decide +kernel
theorem sc__law_in : FnScope f__law_in.N f__law_in.P (defScope (top 31)) := ⟨rfl, rfl, rfl, by decide +kernel, rfl, by decide +kernel, by decide +kernel⟩
theorem ok__law_with : chk f__law_with 32 = true := by decide +kernel
theorem sc__law_with : FnScope f__law_with.N f__law_with.P (defScope (top 32)) := ⟨rfl, rfl, rfl, by decide +kernel, rfl, by decide +kernel, by decide +kernel⟩
theorem ok__law_put : chk f__law_put 33 = true := by decide +kernel
theorem sc__law_put : FnScope f__law_put.N f__law_put.P (defScope (top 33)) := ⟨rfl, rfl, rfl, by decide +kernel, rfl, by decide +kernel, by decide +kernel⟩
theorem ok__law_shut : chk f__law_shut 34 = true := by decide +kernel
theorem sc__law_shut : FnScope f__law_shut.N f__law_shut.P (defScope (top 34)) := ⟨rfl, rfl, rfl, by decide +kernel, rfl, by decide +kernel, by decide +kernel⟩
theorem ok__law_some_kind : chk f__law_some_kind 35 = true := by decide +kernel
theorem sc__law_some_kind : FnScope f__law_some_kind.N f__law_some_kind.P (defScope (top 35)) := ⟨rfl, rfl, rfl, by decide +kernel, rfl, by decide +kernel, by decide +kernel⟩
theorem ok__law_up : chk f__law_up 36 = true := by decide +kernel
theorem sc__law_up : FnScope f__law_up.N f__law_up.P (defScope (top 36)) := ⟨rfl, rfl, rfl, by decide +kernel, rfl, by decide +kernel, by decide +kernel⟩
theorem ok__law_closed : chk f__law_closed 37 = true := by decide +kernel
theorem sc__law_closed : FnScope f__law_closed.N f__law_closed.P (defScope (top 37)) := ⟨rfl, rfl, rfl, by decide +kernel, rfl, by decide +kernel, by decide +kernel⟩
theorem ok__law_is_kind : chk f__law_is_kind 38 = true := by decide +kernel
theorem sc__law_is_kind : FnScope f__law_is_kind.N f__law_is_kind.P (defScope (top 38)) := ⟨rfl, rfl, rfl, by decide +kernel, rfl, by decide +kernel, by decide +kernel⟩
theorem ok__law_bent : chk f__law_bent 39 = true := by decide +kernel
theorem sc__law_bent : FnScope f__law_bent.N f__law_bent.P (defScope (top 39)) := ⟨rfl, rfl, rfl, by decide +kernel, rfl, by decide +kernel, by decide +kernel⟩
theorem ok__law_refused : chk f__law_refused 40 = true := by decide +kernel
theorem sc__law_refused : FnScope f__law_refused.N f__law_refused.P (defScope (top 40)) := ⟨rfl, rfl, rfl, by decide +kernel, rfl, by decide +kernel, by decide +kernel⟩
theorem ok_law : chk f_law 41 = true := by decide +kernel
theorem sc_law : FnScope f_law.N f_law.P (defScope (top 41)) := ⟨rfl, rfl, rfl, by decide +kernel, rfl, by decide +kernel, by decide +kernel⟩
abbrev G : List D := [.int 10000, .tup [.str "cell", .str "int", .str "not", .str "one", .str "rec", .str "row", .str "some"], .int 10000000000000000000000000000000000000000000000000000000000000000000000000000000000000000000]
abbrev C (k f : Nat) (xs : List D) (h : Hh) : R D := callN T G k f xs h
abbrev F (k : Nat) : Fns := callN T G k
abbrev n_is_integer : Nat := 0
theorem C_is_integer (k : Nat) (x0 : D) (h : Hh) : C (k + 1) n_is_integer [x0] h = finR false h.length (evSs (F k) G b_is_integer [some x0] h) := id rfl
abbrev n_is_tuple_of : Nat := 1
theorem C_is_tuple_of (k : Nat) (x0 x1 : D) (h : Hh) : C (k + 1) n_is_tuple_of [x0, x1] h = finR false h.length (evSs (F k) G b_is_tuple_of [some x0, some x1] h) := id rfl
abbrev n_is_kinds : Nat := 2
theorem C_is_kinds (k : Nat) (x0 : D) (h : Hh) : C (k + 1) n_is_kinds [x0] h = finR false h.length (evSs (F k) G b_is_kinds [some x0, none] h) := id rfl
abbrev n_is_pairs : Nat := 3
theorem C_is_pairs (k : Nat) (x0 : D) (h : Hh) : C (k + 1) n_is_pairs [x0] h = finR false h.length (evSs (F k) G b_is_pairs [some x0, none] h) := id rfl
abbrev n_has_form : Nat := 4
theorem C_has_form (k : Nat) (x0 : D) (h : Hh) : C (k + 1) n_has_form [x0] h = finR false h.length (evSs (F k) G b_has_form [some x0, none, none, none] h) := id rfl
abbrev n_is_rising : Nat := 5
theorem C_is_rising (k : Nat) (x0 : D) (h : Hh) : C (k + 1) n_is_rising [x0] h = finR false h.length (evSs (F k) G b_is_rising [some x0, none, none] h) := id rfl
abbrev n_insides : Nat := 6
theorem C_insides (k : Nat) (x0 : D) (h : Hh) : C (k + 1) n_insides [x0] h = finR false h.length (evSs (F k) G b_insides [some x0, none, none, none, none] h) := id rfl
abbrev n_binds : Nat := 7
theorem C_binds (k : Nat) (x0 : D) (h : Hh) : C (k + 1) n_binds [x0] h = finR false h.length (evSs (F k) G b_binds [some x0] h) := id rfl
abbrev n_with_insides : Nat := 8
theorem C_with_insides (k : Nat) (x0 x1 : D) (h : Hh) : C (k + 1) n_with_insides [x0, x1] h = finR false h.length (evSs (F k) G b_with_insides [some x0, some x1, none, none, none] h) := id rfl
abbrev n_is_kind_below : Nat := 9
theorem C_is_kind_below (k : Nat) (x0 x1 x2 x3 : D) (h : Hh) : C (k + 1) n_is_kind_below [x0, x1, x2, x3] h = finR false h.length (evSs (F k) G b_is_kind_below [some x0, some x1, some x2, some x3, none] h) := id rfl
abbrev n_is_kind : Nat := 10
theorem C_is_kind (k : Nat) (x0 x1 x2 : D) (h : Hh) : C (k + 1) n_is_kind [x0, x1, x2] h = finR false h.length (evSs (F k) G b_is_kind [some x0, some x1, some x2] h) := id rfl
abbrev n_put_below : Nat := 11
theorem C_put_below (k : Nat) (x0 x1 x2 : D) (h : Hh) : C (k + 1) n_put_below [x0, x1, x2] h = finR false h.length (evSs (F k) G b_put_below [some x0, some x1, some x2, none, none, none] h) := id rfl
abbrev n_opened : Nat := 12
theorem C_opened (k : Nat) (x0 x1 : D) (h : Hh) : C (k + 1) n_opened [x0, x1] h = finR false h.length (evSs (F k) G b_opened [some x0, some x1, none, none] h) := id rfl
abbrev n_unfolded : Nat := 13
theorem C_unfolded (k : Nat) (x0 : D) (h : Hh) : C (k + 1) n_unfolded [x0] h = finR false h.length (evSs (F k) G b_unfolded [some x0] h) := id rfl
abbrev n_raised : Nat := 14
theorem C_raised (k : Nat) (x0 x1 : D) (h : Hh) : C (k + 1) n_raised [x0, x1] h = finR false h.length (evSs (F k) G b_raised [some x0, some x1, none, none] h) := id rfl
abbrev n_hidden_pairs : Nat := 15
theorem C_hidden_pairs (k : Nat) (x0 : D) (h : Hh) : C (k + 1) n_hidden_pairs [x0] h = finR false h.length (evSs (F k) G b_hidden_pairs [some x0, none, none, none, none] h) := id rfl
abbrev n_closed_kind : Nat := 16
theorem C_closed_kind (k : Nat) (x0 : D) (h : Hh) : C (k + 1) n_closed_kind [x0] h = finR false h.length (evSs (F k) G b_closed_kind [some x0] h) := id rfl
abbrev n__law_spring : Nat := 17
theorem C__law_spring (k : Nat) (x0 : D) (h : Hh) : C (k + 1) n__law_spring [x0] h = finR false h.length (evSs (F k) G b__law_spring [some x0, none, none, none] h) := id rfl
abbrev n__law_drop : Nat := 18
theorem C__law_drop (k : Nat) (x0 x1 : D) (h : Hh) : C (k + 1) n__law_drop [x0, x1] h = finR false h.length (evSs (F k) G b__law_drop [some x0, some x1, none, none] h) := id rfl
abbrev n__law_kinds : Nat := 19
theorem C__law_kinds (k : Nat) (x0 : D) (h : Hh) : C (k + 1) n__law_kinds [x0] h = finR false h.length (evSs (F k) G b__law_kinds [some x0, none] h) := id rfl
abbrev n__law_alike : Nat := 20
theorem C__law_alike (k : Nat) (x0 x1 : D) (h : Hh) : C (k + 1) n__law_alike [x0, x1] h = finR false h.length (evSs (F k) G b__law_alike [some x0, some x1, none] h) := id rfl
abbrev n__law_in : Nat := 21
theorem C__law_in (k : Nat) (x0 : D) (h : Hh) : C (k + 1) n__law_in [x0] h = finR false h.length (evSs (F k) G b__law_in [some x0] h) := id rfl
abbrev n__law_with : Nat := 22
theorem C__law_with (k : Nat) (x0 x1 : D) (h : Hh) : C (k + 1) n__law_with [x0, x1] h = finR false h.length (evSs (F k) G b__law_with [some x0, some x1] h) := id rfl
abbrev n__law_put : Nat := 23
theorem C__law_put (k : Nat) (x0 x1 x2 : D) (h : Hh) : C (k + 1) n__law_put [x0, x1, x2] h = finR false h.length (evSs (F k) G b__law_put [some x0, some x1, some x2, none, none, none, none] h) := id rfl
abbrev n__law_shut : Nat := 24
theorem C__law_shut (k : Nat) (x0 x1 x2 : D) (h : Hh) : C (k + 1) n__law_shut [x0, x1, x2] h = finR false h.length (evSs (F k) G b__law_shut [some x0, some x1, some x2, none, none, none] h) := id rfl
abbrev n__law_some_kind : Nat := 25
theorem C__law_some_kind (k : Nat) (x0 x1 x2 : D) (h : Hh) : C (k + 1) n__law_some_kind [x0, x1, x2] h = finR false h.length (evSs (F k) G b__law_some_kind [some x0, some x1, some x2, none, none, none, none, none, none, none] h) := id rfl
abbrev n__law_up : Nat := 26
theorem C__law_up (k : Nat) (x0 x1 : D) (h : Hh) : C (k + 1) n__law_up [x0, x1] h = finR false h.length (evSs (F k) G b__law_up [some x0, some x1, none, none, none] h) := id rfl
abbrev n__law_closed : Nat := 27
theorem C__law_closed (k : Nat) (x0 : D) (h : Hh) : C (k + 1) n__law_closed [x0] h = finR false h.length (evSs (F k) G b__law_closed [some x0, none, none, none, none] h) := id rfl
abbrev n__law_is_kind : Nat := 28
theorem C__law_is_kind (k : Nat) (x0 x1 : D) (h : Hh) : C (k + 1) n__law_is_kind [x0, x1] h = finR false h.length (evSs (F k) G b__law_is_kind [some x0, some x1, none, none, none, none] h) := id rfl
abbrev n__law_bent : Nat := 29
theorem C__law_bent (k : Nat) (x0 x1 : D) (h : Hh) : C (k + 1) n__law_bent [x0, x1] h = finR false h.length (evSs (F k) G b__law_bent [some x0, some x1, none, none] h) := id rfl
abbrev n__law_refused : Nat := 30
theorem C__law_refused (k : Nat) (x0 : D) (h : Hh) : C (k + 1) n__law_refused [x0] h = finR false h.length (evSs (F k) G b__law_refused [some x0, none, none] h) := id rfl
abbrev n_law : Nat := 31
theorem C_law (k : Nat) (x0 : D) (h : Hh) : C (k + 1) n_law [x0] h = finR false h.length (evSs (F k) G b_law [some x0, none, none, none, none, none, none, none, none, none, none, none, none, none, none, none, none, none] h) := id rfl
end K32
end

section
/-! KdA: kinds as a type of their own; what is replaced at their variables. No program in sight. -/
set_option maxRecDepth 100000
namespace Kn
open PySem PV
inductive A2 {α β : Type} (P : α → β → Prop) : List α → List β → Prop
  | nil : A2 P [] []
  | cons {a b as bs} : P a b → A2 P as bs → A2 P (a :: as) (b :: bs)
theorem A2.len {α β : Type} {P : α → β → Prop} {xs : List α} {ys : List β} (h : A2 P xs ys) : xs.length = ys.length := by
  induction h with
  | nil => rfl
  | cons _ _ ih => simp [ih]
theorem A2.app {α β : Type} {P : α → β → Prop} {xs xs' : List α} {ys ys' : List β} (h : A2 P xs ys) (h' : A2 P xs' ys') : A2 P (xs ++ xs') (ys ++ ys') := by
  induction h with
  | nil => exact h'
  | cons p _ ih => exact .cons p ih
theorem A2.imp {α β : Type} {P Q : α → β → Prop} {xs : List α} {ys : List β} (h : A2 P xs ys) (f : ∀ a b, P a b → Q a b) : A2 Q xs ys := by
  induction h with
  | nil => exact .nil
  | cons p _ ih => exact .cons (f _ _ p) ih
theorem A2.get {α β : Type} {P : α → β → Prop} : ∀ {xs : List α} {ys : List β} {k : Nat} {x : α}, A2 P xs ys → xs[k]? = some x → ∃ y, ys[k]? = some y ∧ P x y
  | _, _, _, _, .nil, e => (by simp at e)
  | _, _, 0, _, .cons p _, e => by simp at e; subst e; exact ⟨_, rfl, p⟩
  | _, _, k + 1, _, .cons _ t, e => by
    obtain ⟨y, h1, h2⟩ := A2.get (k := k) t (by simpa using e)
    exact ⟨y, by simpa using h1, h2⟩
theorem A2.of_get {α β : Type} {P : α → β → Prop} : ∀ {xs : List α} {ys : List β}, xs.length = ys.length → (∀ (k : Nat) (x : α) (y : β), xs[k]? = some x → ys[k]? = some y → P x y) → A2 P xs ys
  | [], [], _, _ => .nil
  | [], _ :: _, hl, _ => by cases hl
  | _ :: _, [], hl, _ => by cases hl
  | x :: xs, y :: ys, hl, h => .cons (h 0 x y rfl rfl) (A2.of_get (Nat.succ.inj hl) fun k a b ha hb => h (k + 1) a b (by simpa using ha) (by simpa using hb))
theorem lcA {turn : D → Hh → R (Option D)} {h : Hh} : ∀ {xs ys : List D} {acc : List D}, A2 (fun x y => turn x h = .ok (some y) h) xs ys → lcLoop (fun _ => true) turn xs acc h = .ok (.lst (acc ++ ys)) h
  | [], _, acc, .nil => by unfold lcLoop; simp
  | x :: xs, _, acc, .cons (b := y) p t => by
    unfold lcLoop
    rw [if_pos rfl, p]
    dsimp only
    rw [lcA t]
    simp
/-- with a filter -/
theorem lcF {turn : D → Hh → R (Option D)} {h : Hh} (g : D → Option D) : ∀ {xs : List D} {acc : List D}, (∀ x ∈ xs, turn x h = .ok (g x) h) → lcLoop (fun _ => true) turn xs acc h = .ok (.lst (acc ++ xs.filterMap g)) h
  | [], acc, _ => by unfold lcLoop; simp
  | x :: xs, acc, p => by
    unfold lcLoop
    rw [if_pos rfl, p x List.mem_cons_self]
    have ih := fun acc => lcF g (xs := xs) (acc := acc) fun y hy => p y (List.mem_cons_of_mem _ hy)
    cases e : g x with
    | none => dsimp only; rw [ih, List.filterMap_cons_none e]
    | some y => dsimp only; rw [ih, List.filterMap_cons_some e]; simp

/-! ### kinds -/
inductive Un where | cel | som | re
inductive Mn where | row | one | room | not (n : Nat) | code (n : Nat)
mutual
inductive Kd where
  | int | free (n : Nat) | var (n : Nat) | un (w : Un) (k : Kd) | mn (m : Mn) (ks : Ks) | to (n : Nat) (ks : Ks) (l : Kd)
inductive Ks where
  | nil | cons (b : D) (k : Kd) (r : Ks)
end
@[simp] def Un.nm : Un → Str
  | .cel => "cell" | .som => "some" | .re => "rec"
@[simp] def Un.bn : Un → Nat
  | .cel => 0 | .som => 1 | .re => 1
@[simp] def Mn.nm : Mn → Str
  | .row => "row" | .one => "one" | .room => "room" | .not _ => "not" | .code _ => "code"
@[simp] def Mn.bn : Mn → Nat
  | .not n => n | .code n => n | _ => 0
mutual
/-- a kind as data -/
def Kd.d : Kd → D
  | .int => .tup [.str "int"]
  | .free n => .tup [.str "free", .int n]
  | .var n => .tup [.str "var", .int n]
  | .un w k => .tup [.str w.nm, k.d]
  | .mn .row ks => .tup [.str "row", .tup ks.ds]
  | .mn .one ks => .tup [.str "one", .tup ks.ds]
  | .mn .room ks => .tup [.str "room", .tup ks.fs]
  | .mn (.not n) ks => .tup [.str "not", .int n, .tup ks.ds]
  | .mn (.code n) ks => .tup [.str "code", .int n, .tup ks.gs]
  | .to n ks l => .tup [.str "to", .int n, .tup ks.ds, l.d]
def Ks.ds : Ks → List D
  | .nil => []
  | .cons _ k r => k.d :: r.ds
def Ks.fs : Ks → List D
  | .nil => []
  | .cons b k r => .tup [k.d, b] :: r.fs
def Ks.gs : Ks → List D
  | .nil => []
  | .cons b k r => .tup [b, k.d] :: r.gs
end
def Ks.len : Ks → Nat
  | .nil => 0
  | .cons _ _ r => r.len + 1
@[simp] theorem ds_len : ∀ ks : Ks, ks.ds.length = ks.len
  | .nil => rfl
  | .cons _ _ r => by show r.ds.length + 1 = r.len + 1; rw [ds_len r]
@[simp] theorem fs_len : ∀ ks : Ks, ks.fs.length = ks.len
  | .nil => rfl
  | .cons _ _ r => by show r.fs.length + 1 = r.len + 1; rw [fs_len r]
@[simp] theorem gs_len : ∀ ks : Ks, ks.gs.length = ks.len
  | .nil => rfl
  | .cons _ _ r => by show r.gs.length + 1 = r.len + 1; rw [gs_len r]
mutual
def Kd.dep : Kd → Nat
  | .un _ k => k.dep + 1
  | .mn _ ks => ks.dep + 1
  | .to _ ks l => max ks.dep l.dep + 1
  | _ => 0
def Ks.dep : Ks → Nat
  | .nil => 0
  | .cons _ k r => max k.dep r.dep
end
mutual
/-- rows are short -/
def Kd.sm : Kd → Prop
  | .un _ k => k.sm
  | .mn _ ks => ks.len ≤ 1000 ∧ ks.sm
  | .to _ ks l => ks.len ≤ 1000 ∧ ks.sm ∧ l.sm
  | _ => True
def Ks.sm : Ks → Prop
  | .nil => True
  | .cons _ k r => k.sm ∧ r.sm
end
/-- the kinds within -/
def Kd.ins : Kd → List D
  | .un _ k => [k.d]
  | .mn _ ks => ks.ds
  | .to _ ks l => ks.ds ++ [l.d]
  | _ => []
def Kd.bn : Kd → Nat
  | .un w _ => w.bn
  | .mn m _ => m.bn
  | .to n _ _ => n
  | _ => 0
/-- other kinds at the variables: g under how many, free, the number -/
abbrev Leaf := Nat → Bool → Nat → Kd
mutual
def Kd.tr (g : Leaf) (u : Nat) : Kd → Kd
  | .int => .int
  | .free n => g u true n
  | .var n => g u false n
  | .un w k => .un w (k.tr g (u + w.bn))
  | .mn m ks => .mn m (ks.tr g (u + m.bn))
  | .to n ks l => .to n (ks.tr g (u + n)) (l.tr g (u + n))
def Ks.tr (g : Leaf) (u : Nat) : Ks → Ks
  | .nil => .nil
  | .cons b k r => .cons b (k.tr g u) (r.tr g u)
end
@[simp] theorem tr_len (g : Leaf) (u : Nat) : ∀ ks : Ks, (ks.tr g u).len = ks.len
  | .nil => rfl
  | .cons _ _ r => by show (r.tr g u).len + 1 = r.len + 1; rw [tr_len g u r]
/-- the kinds within, turned -/
def Kd.tri (g : Leaf) (u : Nat) : Kd → List D
  | .un w k => [(k.tr g (u + w.bn)).d]
  | .mn m ks => (ks.tr g (u + m.bn)).ds
  | .to n ks l => (ks.tr g (u + n)).ds ++ [(l.tr g (u + n)).d]
  | _ => []
/-- the kinds within turned, at a level of their own -/
def Kd.inn (g : Leaf) (v : Nat) : Kd → Kd
  | .un w k => .un w (k.tr g v)
  | .mn m ks => .mn m (ks.tr g v)
  | .to n ks l => .to n (ks.tr g v) (l.tr g v)
  | k => k
def Kd.ini (g : Leaf) (v : Nat) : Kd → List D
  | .un w k => [(k.tr g v).d]
  | .mn m ks => (ks.tr g v).ds
  | .to n ks l => (ks.tr g v).ds ++ [(l.tr g v).d]
  | _ => []
theorem tri_ini (g : Leaf) (u : Nat) (d : Kd) : d.tri g u = d.ini g (u + d.bn) := by cases d <;> rfl
def Kd.leaf : Kd → Bool
  | .int => true | .free _ => true | .var _ => true
  | _ => false
theorem tr_inn (g : Leaf) (u : Nat) {d : Kd} (h : d.leaf = false) : d.tr g u = d.inn g (u + d.bn) := by cases d <;> first | rfl | cases h
mutual
/-- variables in scope -/
def Kd.wk (f u : Nat) : Kd → Prop
  | .int => True
  | .free n => n < f
  | .var n => n < u
  | .un w k => k.wk f (u + w.bn)
  | .mn m ks => ks.wk f (u + m.bn)
  | .to n ks l => ks.wk f (u + n) ∧ l.wk f (u + n)
def Ks.wk (f u : Nat) : Ks → Prop
  | .nil => True
  | .cons _ k r => k.wk f u ∧ r.wk f u
end
mutual
theorem tr_tr (g g' : Leaf) : ∀ (k : Kd) (u : Nat), (k.tr g u).tr g' u = k.tr (fun u f n => (g u f n).tr g' u) u
  | .int, u => rfl
  | .free n, u => rfl
  | .var n, u => rfl
  | .un w k, u => by simp only [Kd.tr, tr_tr g g' k]
  | .mn m ks, u => by simp only [Kd.tr, trs_trs g g' ks]
  | .to n ks l, u => by simp only [Kd.tr, trs_trs g g' ks, tr_tr g g' l]
theorem trs_trs (g g' : Leaf) : ∀ (ks : Ks) (u : Nat), (ks.tr g u).tr g' u = ks.tr (fun u f n => (g u f n).tr g' u) u
  | .nil, u => rfl
  | .cons b k r, u => by simp only [Ks.tr, tr_tr g g' k, trs_trs g g' r]
end
mutual
/-- the same, where they are the same at the variables in scope -/
theorem tr_eq {g g' : Leaf} {F : Nat} : ∀ (k : Kd) (u : Nat), k.wk F u → (∀ v, u ≤ v → (∀ n, n < F → g v true n = g' v true n) ∧ ∀ n, n < v → g v false n = g' v false n) → k.tr g u = k.tr g' u
  | .int, u, _, _ => rfl
  | .free n, u, hw, h => (h u (Nat.le_refl _)).1 n hw
  | .var n, u, hw, h => (h u (Nat.le_refl _)).2 n hw
  | .un w k, u, hw, h => by simp only [Kd.tr]; rw [tr_eq k (u + w.bn) hw fun v hv => h v (by omega)]
  | .mn m ks, u, hw, h => by simp only [Kd.tr]; rw [trs_eq ks (u + m.bn) hw fun v hv => h v (by omega)]
  | .to n ks l, u, hw, h => by simp only [Kd.tr]; rw [trs_eq ks (u + n) hw.1 fun v hv => h v (by omega), tr_eq l (u + n) hw.2 fun v hv => h v (by omega)]
theorem trs_eq {g g' : Leaf} {F : Nat} : ∀ (ks : Ks) (u : Nat), ks.wk F u → (∀ v, u ≤ v → (∀ n, n < F → g v true n = g' v true n) ∧ ∀ n, n < v → g v false n = g' v false n) → ks.tr g u = ks.tr g' u
  | .nil, u, _, _ => rfl
  | .cons b k r, u, hw, h => by simp only [Ks.tr]; rw [tr_eq k u hw.1 h, trs_eq r u hw.2 h]
end
mutual
theorem tr_id : ∀ (k : Kd) (u : Nat), k.tr (fun _ f n => if f then .free n else .var n) u = k
  | .int, u => rfl
  | .free n, u => rfl
  | .var n, u => rfl
  | .un w k, u => by simp only [Kd.tr, tr_id k]
  | .mn m ks, u => by simp only [Kd.tr, trs_id ks]
  | .to n ks l, u => by simp only [Kd.tr, trs_id ks, tr_id l]
theorem trs_id : ∀ (ks : Ks) (u : Nat), ks.tr (fun _ f n => if f then .free n else .var n) u = ks
  | .nil, u => rfl
  | .cons b k r, u => by simp only [Ks.tr, tr_id k, trs_id r]
end
/-- stays as it is -/
theorem tr_stay {g : Leaf} {F : Nat} (k : Kd) (u : Nat) (hw : k.wk F u) (h : ∀ v, u ≤ v → (∀ n, n < F → g v true n = .free n) ∧ ∀ n, n < v → g v false n = .var n) : k.tr g u = k :=
  (tr_eq (g' := fun _ f n => if f then .free n else .var n) k u hw fun v hv => ⟨fun n hn => (h v hv).1 n hn, fun n hn => (h v hv).2 n hn⟩).trans (tr_id k u)
mutual
theorem wk_le {F F' : Nat} : ∀ (k : Kd) {u u' : Nat}, k.wk F u → F ≤ F' → u ≤ u' → k.wk F' u'
  | .int, u, u', _, _, _ => trivial
  | .free n, u, u', hw, hf, hu => Nat.lt_of_lt_of_le hw hf
  | .var n, u, u', hw, hf, hu => Nat.lt_of_lt_of_le hw hu
  | .un w k, u, u', hw, hf, hu => wk_le k (u := u + w.bn) (u' := u' + w.bn) hw hf (by omega)
  | .mn m ks, u, u', hw, hf, hu => wks_le ks (u := u + m.bn) (u' := u' + m.bn) hw hf (by omega)
  | .to n ks l, u, u', hw, hf, hu => ⟨wks_le ks (u := u + n) (u' := u' + n) hw.1 hf (by omega), wk_le l (u := u + n) (u' := u' + n) hw.2 hf (by omega)⟩
theorem wks_le {F F' : Nat} : ∀ (ks : Ks) {u u' : Nat}, ks.wk F u → F ≤ F' → u ≤ u' → ks.wk F' u'
  | .nil, u, u', _, _, _ => trivial
  | .cons b k r, u, u', hw, hf, hu => ⟨wk_le k hw.1 hf hu, wks_le r hw.2 hf hu⟩
end
mutual
/-- scope behind a replacing -/
theorem tr_wk {g : Leaf} {F F' : Nat} {m : Nat → Nat} : ∀ (k : Kd) (u : Nat), k.wk F u → (∀ v, u ≤ v → (∀ n, n < F → (g v true n).wk F' (m v)) ∧ ∀ n, n < v → (g v false n).wk F' (m v)) → (∀ v w, u ≤ v → m (v + w) = m v + w) → (k.tr g u).wk F' (m u)
  | .int, u, _, _, _ => trivial
  | .free n, u, hw, h, _ => (h u (Nat.le_refl _)).1 n hw
  | .var n, u, hw, h, _ => (h u (Nat.le_refl _)).2 n hw
  | .un w k, u, hw, h, hm => by
    have := tr_wk k (u + w.bn) hw (fun v hv => h v (by omega)) fun v x hv => hm v x (by omega)
    rw [hm u w.bn (Nat.le_refl _)] at this; exact this
  | .mn m' ks, u, hw, h, hm => by
    have := trs_wk ks (u + m'.bn) hw (fun v hv => h v (by omega)) fun v x hv => hm v x (by omega)
    rw [hm u m'.bn (Nat.le_refl _)] at this; exact this
  | .to n ks l, u, hw, h, hm => by
    have h1 := trs_wk ks (u + n) hw.1 (fun v hv => h v (by omega)) fun v x hv => hm v x (by omega)
    have h2 := tr_wk l (u + n) hw.2 (fun v hv => h v (by omega)) fun v x hv => hm v x (by omega)
    rw [hm u n (Nat.le_refl _)] at h1 h2
    exact ⟨h1, h2⟩
theorem trs_wk {g : Leaf} {F F' : Nat} {m : Nat → Nat} : ∀ (ks : Ks) (u : Nat), ks.wk F u → (∀ v, u ≤ v → (∀ n, n < F → (g v true n).wk F' (m v)) ∧ ∀ n, n < v → (g v false n).wk F' (m v)) → (∀ v w, u ≤ v → m (v + w) = m v + w) → (ks.tr g u).wk F' (m u)
  | .nil, u, _, _, _ => trivial
  | .cons b k r, u, hw, h, hm => ⟨tr_wk k u hw.1 h hm, trs_wk r u hw.2 h hm⟩
end
mutual
theorem tr_sm {g : Leaf} (h : ∀ v f n, (g v f n).sm) : ∀ (k : Kd) (u : Nat), k.sm → (k.tr g u).sm
  | .int, u, _ => trivial
  | .free n, u, _ => h u true n
  | .var n, u, _ => h u false n
  | .un w k, u, hs => tr_sm h k (u + w.bn) hs
  | .mn m ks, u, hs => ⟨by rw [tr_len]; exact hs.1, trs_sm h ks (u + m.bn) hs.2⟩
  | .to n ks l, u, hs => ⟨by rw [tr_len]; exact hs.1, trs_sm h ks (u + n) hs.2.1, tr_sm h l (u + n) hs.2.2⟩
theorem trs_sm {g : Leaf} (h : ∀ v f n, (g v f n).sm) : ∀ (ks : Ks) (u : Nat), ks.sm → (ks.tr g u).sm
  | .nil, u, _ => trivial
  | .cons b k r, u, hs => ⟨tr_sm h k u hs.1, trs_sm h r u hs.2⟩
end
mutual
theorem tr_dep {g : Leaf} {N : Nat} (h : ∀ v f n, (g v f n).dep ≤ N) : ∀ (k : Kd) (u : Nat), (k.tr g u).dep ≤ k.dep + N
  | .int, u => Nat.zero_le _
  | .free n, u => Nat.le_trans (h u true n) (Nat.le_add_left _ _)
  | .var n, u => Nat.le_trans (h u false n) (Nat.le_add_left _ _)
  | .un w k, u => by have := tr_dep h k (u + w.bn); simp only [Kd.tr, Kd.dep]; omega
  | .mn m ks, u => by have := trs_dep h ks (u + m.bn); simp only [Kd.tr, Kd.dep]; omega
  | .to n ks l, u => by have := trs_dep h ks (u + n); have := tr_dep h l (u + n); simp only [Kd.tr, Kd.dep]; omega
theorem trs_dep {g : Leaf} {N : Nat} (h : ∀ v f n, (g v f n).dep ≤ N) : ∀ (ks : Ks) (u : Nat), (ks.tr g u).dep ≤ ks.dep + N
  | .nil, u => Nat.zero_le _
  | .cons b k r, u => by have := tr_dep h k u; have := trs_dep h r u; simp only [Ks.tr, Ks.dep]; omega
end
/-! ### the replacings of the program -/
/-- an opened binder's -/
def putG (ss : List Kd) : Leaf := fun u f n => if f then .free n else if n < u then .var n else match ss[n - u]? with
  | some k => k
  | none => .var (n - ss.length)
/-- a shut binder's: where an order has a number -/
def shutG (o : List Nat) : Leaf := fun u f n => if f then (if n ∈ o then .var (u + o.idxOf n) else .free n) else if n < u then .var n else .var (n + o.length)
def fillG (ss : List Kd) : Leaf := fun _ f n => if f then ss.getD n .int else .var n
end Kn
end

section
/-! KdI: what is a kind, among any data. No program in sight. -/
set_option maxRecDepth 100000
namespace Kn
open PySem PV
mutual
/-- plain data of a size that walks -/
def pl : D → Bool
  | .non => true
  | .bl _ => true
  | .int _ => true
  | .str x => PyData.strOk x
  | .tup xs => decide (xs.length ≤ 1000000) && pls xs
  | .lst xs => decide (xs.length ≤ 1000000) && pls xs
  | .ref _ => false
  | .fz _ => false
  | .ftup _ => false
  | .exc _ => false
  | .exf _ _ _ => false
def pls : List D → Bool
  | [] => true
  | x :: xs => pl x && pls xs
end
theorem pls_iff : ∀ {xs : List D}, pls xs = true ↔ ∀ x ∈ xs, pl x = true
  | [] => by simp [pls]
  | x :: xs => by simp [pls, pls_iff (xs := xs)]
mutual
theorem pl_lay : ∀ d : D, pl d = true → d.lay = true
  | .non, _ => rfl
  | .bl _, _ => rfl
  | .int _, _ => rfl
  | .str _, h => h
  | .tup xs, h => by simp only [pl, Bool.and_eq_true] at h; exact pls_lays xs h.2
  | .lst xs, h => by simp only [pl, Bool.and_eq_true] at h; exact pls_lays xs h.2
  | .ref _, h => by cases h
  | .fz _, h => by cases h
  | .ftup _, h => by cases h
  | .exc _, h => by cases h
  | .exf _ _ _, h => by cases h
theorem pls_lays : ∀ xs : List D, pls xs = true → D.lays xs = true
  | [], _ => rfl
  | x :: xs, h => by
    simp only [pls, Bool.and_eq_true] at h
    show (x.lay && D.lays xs) = true
    rw [pl_lay x h.1, pls_lays xs h.2]; rfl
end
/-- plain, and of a depth that == reads -/
def P64 (d : D) : Prop := pl d = true ∧ d.dep ≤ 64
theorem P64.shp {d : D} (h : P64 d) : d.shp = true := by
  unfold D.shp
  rw [pl_lay d h.1, Bool.true_and]
  exact decide_eq_true h.2
theorem P64.sub {xs : List D} (h : P64 (.tup xs)) {x : D} (hx : x ∈ xs) : P64 x := by
  have h1 := h.1
  have h2 : D.deps xs + 1 ≤ 64 := h.2
  simp only [pl, Bool.and_eq_true] at h1
  have := deps_le.mp (Nat.le_refl (D.deps xs)) x hx
  exact ⟨pls_iff.mp h1.2 x hx, by omega⟩
theorem P64.len {xs : List D} (h : P64 (.tup xs)) : xs.length ≤ 1000000 := by
  have h1 := h.1
  simp only [pl, Bool.and_eq_true, decide_eq_true_eq] at h1
  exact h1.1
theorem P64.subd {xs : List D} {n : Nat} (h : (D.tup xs).dep ≤ n + 1) {x : D} (hx : x ∈ xs) : x.dep ≤ n := by
  have h2 : D.deps xs + 1 ≤ n + 1 := h
  have := deps_le.mp (Nat.le_refl (D.deps xs)) x hx
  omega
theorem P64.tl {x : D} {xs : List D} (h : P64 (.tup (x :: xs))) : P64 (.tup xs) := by
  have h1 := h.1
  have h2 : D.deps (x :: xs) + 1 ≤ 64 := h.2
  simp only [pl, pls, Bool.and_eq_true, decide_eq_true_eq, List.length_cons] at h1
  simp only [D.deps] at h2
  refine ⟨?_, ?_⟩
  · simp only [pl, Bool.and_eq_true, decide_eq_true_eq]; exact ⟨by omega, h1.2.2⟩
  · show D.deps xs + 1 ≤ 64; omega
theorem P64.nf {x : D} (h : P64 x) : x.isF = false := by cases x <;> first | rfl | cases h.1
def isHd : D → Bool
  | .tup (.str _ :: _) => true
  | _ => false
def isHds : D → Bool
  | .tup xs => xs.all isHd
  | _ => false
def isPr : D → Bool
  | .tup [_, _] => true
  | _ => false
def isPrs : D → Bool
  | .tup xs => xs.all isPr
  | _ => false
def isNt : D → Bool
  | .int i => decide (0 ≤ i)
  | _ => false
def isBl : D → Bool
  | .bl _ => true
  | _ => false
def fst : D → D
  | .tup (x :: _) => x
  | _ => .non
def snd : D → D
  | .tup (_ :: x :: _) => x
  | _ => .non
def items : D → List D
  | .tup xs => xs
  | _ => []
def ltD : D → D → Bool
  | .int i, .int j => decide (i < j)
  | _, _ => false
def rise : List D → Bool
  | x :: y :: r => ltD x y && rise (y :: r)
  | _ => true
def rising (xs : List D) : Bool := xs.all isNt && rise xs
/-- the head is a variable's -/
def hdV : D → Bool
  | .tup (.str w :: _) => decide (w = "free") || decide (w = "var")
  | _ => false
def bnd (i : Int) : Bool := decide (0 ≤ i) && decide (i ≤ 10000)
def one1 (p : D → Bool) : List D → Bool
  | [x] => p x
  | _ => false
def two2 (p : D → D → Bool) : List D → Bool
  | [x, y] => p x y
  | _ => false
def three3 (p : D → D → D → Bool) : List D → Bool
  | [x, y, z] => p x y z
  | _ => false
def inB : D → Bool
  | .int n => bnd n
  | _ => false
def form (w : Str) (rest : List D) : Bool :=
    if w = "int" then rest.isEmpty
    else if w = "free" ∨ w = "var" then one1 isNt rest
    else if w = "cell" ∨ w = "some" ∨ w = "rec" then one1 (fun x => isHd x && (!decide (w = "rec") || !hdV x)) rest
    else if w = "row" ∨ w = "one" then one1 (fun x => isHds x && (decide (w = "row") || !(items x).isEmpty)) rest
    else if w = "room" then one1 (fun x => isPrs x && (items x).all fun p => isBl (snd p)) rest
    else if w = "not" then two2 (fun n x => inB n && isHds x) rest
    else if w = "to" then three3 (fun n x y => inB n && (isHds x && isHd y)) rest
    else if w = "code" then two2 (fun n x => inB n && (isPrs x && rising ((items x).map fst))) rest
    else false
/-- the kinds within, and how many are bound there; of what has the form -/
def inn (w : Str) (rest : List D) : List D :=
    if w = "cell" ∨ w = "some" ∨ w = "rec" then rest
    else if w = "row" ∨ w = "one" then items (rest.getD 0 .non)
    else if w = "room" then (items (rest.getD 0 .non)).map fst
    else if w = "code" then (items (rest.getD 1 .non)).map snd
    else if w = "to" then items (rest.getD 1 .non) ++ [rest.getD 2 .non]
    else if w = "not" then items (rest.getD 1 .non)
    else []
def numD : D → Int
  | .int i => i
  | _ => 0
def bnn (w : Str) (rest : List D) : Int :=
  if w = "some" ∨ w = "rec" then 1 else if w = "not" ∨ w = "to" ∨ w = "code" then numD (rest.getD 0 .non) else 0
def isK (ws : List Str) (f : Int) : Nat → Int → D → Bool
  | 0, _, _ => false
  | n + 1, u, .tup (.str w :: rest) => (decide (w ∈ ws) || decide (w = "free") || decide (w = "var")) && form w rest &&
      (if w = "free" then decide (numD (rest.getD 0 .non) < f) else if w = "var" then decide (numD (rest.getD 0 .non) < u)
       else (inn w rest).all (isK ws f n (u + bnn w rest)))
  | _ + 1, _, _ => false
def PN (n : Nat) (d : D) : Prop := pl d = true ∧ d.dep ≤ n
theorem PN.p64 {n : Nat} {d : D} (h : PN n d) (hn : n ≤ 64) : P64 d := ⟨h.1, Nat.le_trans h.2 hn⟩
theorem PN.sub {n : Nat} {xs : List D} (h : PN (n + 1) (.tup xs)) {x : D} (hx : x ∈ xs) : PN n x := by
  have h1 := h.1
  have h2 : D.deps xs + 1 ≤ n + 1 := h.2
  simp only [pl, Bool.and_eq_true] at h1
  have := deps_le.mp (Nat.le_refl (D.deps xs)) x hx
  exact ⟨pls_iff.mp h1.2 x hx, by omega⟩
theorem PN.mono {n m : Nat} {d : D} (h : PN n d) (hm : n ≤ m) : PN m d := ⟨h.1, Nat.le_trans h.2 hm⟩
/-- one deeper, of any tuple -/
theorem PN.dn {n : Nat} {xs : List D} (h : PN n (.tup xs)) {x : D} (hx : x ∈ xs) : PN n x ∧ PN (n - 1) x := by
  cases n with
  | zero => have := h.2; simp [D.dep] at this
  | succ n => exact ⟨(h.sub hx).mono (Nat.le_succ n), h.sub hx⟩
theorem one1_eq {p : D → Bool} {r : List D} (h : one1 p r = true) : ∃ x, r = [x] ∧ p x = true := by
  unfold one1 at h
  split at h
  · exact ⟨_, rfl, h⟩
  · cases h
theorem two2_eq {p : D → D → Bool} {r : List D} (h : two2 p r = true) : ∃ x y, r = [x, y] ∧ p x y = true := by
  unfold two2 at h
  split at h
  · exact ⟨_, _, rfl, h⟩
  · cases h
theorem three3_eq {p : D → D → D → Bool} {r : List D} (h : three3 p r = true) : ∃ x y z, r = [x, y, z] ∧ p x y z = true := by
  unfold three3 at h
  split at h
  · exact ⟨_, _, _, rfl, h⟩
  · cases h
theorem isHds_eq {x : D} (h : isHds x = true) : ∃ xs, x = .tup xs ∧ xs.all isHd = true := by
  cases x <;> first | exact ⟨_, rfl, h⟩ | cases h
theorem isPrs_eq {x : D} (h : isPrs x = true) : ∃ xs, x = .tup xs ∧ xs.all isPr = true := by
  cases x <;> first | exact ⟨_, rfl, h⟩ | cases h
theorem isPr_eq {x : D} (h : isPr x = true) : ∃ a b, x = .tup [a, b] := by
  unfold isPr at h
  split at h
  · exact ⟨_, _, rfl⟩
  · cases h
theorem inB_eq {x : D} (h : inB x = true) : ∃ n, x = .int n ∧ 0 ≤ n ∧ n ≤ 10000 := by
  cases x <;> first | exact ⟨_, rfl, by simpa [inB, bnd] using h⟩ | cases h
theorem isNt_eq {x : D} (h : isNt x = true) : ∃ n, x = .int n ∧ 0 ≤ n := by
  cases x <;> first | exact ⟨_, rfl, by simpa [isNt] using h⟩ | cases h
/-- what has the form -/
inductive Fm : Str → List D → Prop
  | int : Fm "int" []
  | free (n : Int) : 0 ≤ n → Fm "free" [.int n]
  | var (n : Int) : 0 ≤ n → Fm "var" [.int n]
  | cell (x : D) : isHd x = true → Fm "cell" [x]
  | some (x : D) : isHd x = true → Fm "some" [x]
  | rec_ (x : D) : isHd x = true → hdV x = false → Fm "rec" [x]
  | row (xs : List D) : xs.all isHd = true → Fm "row" [.tup xs]
  | one (xs : List D) : xs.all isHd = true → xs.isEmpty = false → Fm "one" [.tup xs]
  | room (xs : List D) : xs.all isPr = true → (xs.all fun p => isBl (snd p)) = true → Fm "room" [.tup xs]
  | not (n : Int) (xs : List D) : 0 ≤ n → n ≤ 10000 → xs.all isHd = true → Fm "not" [.int n, .tup xs]
  | to (n : Int) (xs : List D) (l : D) : 0 ≤ n → n ≤ 10000 → xs.all isHd = true → isHd l = true → Fm "to" [.int n, .tup xs, l]
  | code (n : Int) (xs : List D) : 0 ≤ n → n ≤ 10000 → xs.all isPr = true → rising (xs.map fst) = true → Fm "code" [.int n, .tup xs]
theorem form_fm {w : Str} {rest : List D} (h : form w rest = true) : Fm w rest := by
  unfold form at h
  split at h
  · rename_i e; subst e
    cases rest with
    | nil => exact .int
    | cons _ _ => cases h
  split at h
  · rename_i e
    obtain ⟨x, rfl, hx⟩ := one1_eq h
    obtain ⟨n, rfl, hn⟩ := isNt_eq hx
    rcases e with rfl | rfl
    · exact .free n hn
    · exact .var n hn
  split at h
  · rename_i e
    obtain ⟨x, rfl, hx⟩ := one1_eq h
    simp only [Bool.and_eq_true, Bool.or_eq_true] at hx
    rcases e with rfl | rfl | rfl
    · exact .cell x hx.1
    · exact .some x hx.1
    · exact .rec_ x hx.1 (by simpa using hx.2)
  split at h
  · rename_i e
    obtain ⟨x, rfl, hx⟩ := one1_eq h
    simp only [Bool.and_eq_true, Bool.or_eq_true] at hx
    obtain ⟨xs, rfl, ha⟩ := isHds_eq hx.1
    rcases e with rfl | rfl
    · exact .row xs ha
    · exact .one xs ha (by simpa [items] using hx.2)
  split at h
  · rename_i e; subst e
    obtain ⟨x, rfl, hx⟩ := one1_eq h
    simp only [Bool.and_eq_true] at hx
    obtain ⟨xs, rfl, ha⟩ := isPrs_eq hx.1
    exact .room xs ha hx.2
  split at h
  · rename_i e; subst e
    obtain ⟨x, y, rfl, hx⟩ := two2_eq h
    simp only [Bool.and_eq_true] at hx
    obtain ⟨n, rfl, h0, h1⟩ := inB_eq hx.1
    obtain ⟨xs, rfl, ha⟩ := isHds_eq hx.2
    exact .not n xs h0 h1 ha
  split at h
  · rename_i e; subst e
    obtain ⟨x, y, z, rfl, hx⟩ := three3_eq h
    simp only [Bool.and_eq_true] at hx
    obtain ⟨n, rfl, h0, h1⟩ := inB_eq hx.1
    obtain ⟨xs, rfl, ha⟩ := isHds_eq hx.2.1
    exact .to n xs z h0 h1 ha hx.2.2
  split at h
  · rename_i e; subst e
    obtain ⟨x, y, rfl, hx⟩ := two2_eq h
    simp only [Bool.and_eq_true] at hx
    obtain ⟨n, rfl, h0, h1⟩ := inB_eq hx.1
    obtain ⟨xs, rfl, ha⟩ := isPrs_eq hx.2.1
    exact .code n xs h0 h1 ha hx.2.2
  · cases h
/-- the kinds within are less deep -/
theorem inn_sub {n : Nat} {w : Str} {rest : List D} (f : Fm w rest) (h : PN (n + 1) (.tup (.str w :: rest))) {x : D} (hx : x ∈ inn w rest) : PN n x := by
  have hr : ∀ y ∈ rest, PN n y := fun y hy => h.sub (List.mem_cons_of_mem _ hy)
  have tp : ∀ {xs : List D}, D.tup xs ∈ rest → ∀ y ∈ xs, PN n y := fun hm y hy => ((hr _ hm).dn hy).1
  have pr : ∀ {xs : List D}, D.tup xs ∈ rest → xs.all isPr = true → ∀ y ∈ xs, PN n (fst y) ∧ PN n (snd y) := fun {xs} hm ha y hy => by
    obtain ⟨a, b, rfl⟩ := isPr_eq (List.all_eq_true.mp ha y hy)
    have q := tp hm _ hy
    exact ⟨(q.dn (x := a) (by simp)).1, (q.dn (x := b) (by simp)).1⟩
  cases f with
  | int => simp [inn] at hx
  | free m _ => simp [inn] at hx
  | var m _ => simp [inn] at hx
  | cell y _ => simp [inn] at hx; subst hx; exact hr _ (by simp)
  | some y _ => simp [inn] at hx; subst hx; exact hr _ (by simp)
  | rec_ y _ _ => simp [inn] at hx; subst hx; exact hr _ (by simp)
  | row xs _ => simp [inn, items] at hx; exact tp (by simp) x hx
  | one xs _ _ => simp [inn, items] at hx; exact tp (by simp) x hx
  | room xs ha _ =>
    simp [inn, items] at hx
    obtain ⟨y, hy, rfl⟩ := hx
    exact (pr (by simp) ha y hy).1
  | not m xs _ _ _ => simp [inn, items] at hx; exact tp (by simp) x hx
  | to m xs l _ _ _ _ =>
    simp [inn, items] at hx
    rcases hx with hx | rfl
    · exact tp (by simp) x hx
    · exact hr _ (by simp)
  | code m xs _ _ ha _ =>
    simp [inn, items] at hx
    obtain ⟨y, hy, rfl⟩ := hx
    exact (pr (by simp) ha y hy).2
end Kn
end

section
/-! KdK: kinds of told words, in scope. No program in sight. -/
set_option maxRecDepth 100000
namespace Kn
open PySem PV
def Ks.tgs : Ks → List D
  | .nil => []
  | .cons b _ r => b :: r.tgs
/-- the tags are of the sort that the word wants -/
def Mn.tagOk : Mn → Ks → Prop
  | .room, ks => ks.tgs.all isBl = true
  | .code _, ks => rising ks.tgs = true
  | .one, ks => 0 < ks.len
  | _, _ => True
mutual
def Kd.ok (ws : List Str) (f u : Nat) : Kd → Prop
  | .int => Str.ofString "int" ∈ ws
  | .free n => n < f
  | .var n => n < u
  | .un w k => w.nm ∈ ws ∧ (w = .re → hdV k.d = false) ∧ k.ok ws f (u + w.bn)
  | .mn m ks => m.nm ∈ ws ∧ m.bn ≤ 10000 ∧ m.tagOk ks ∧ ks.ok ws f (u + m.bn)
  | .to n ks l => Str.ofString "to" ∈ ws ∧ n ≤ 10000 ∧ ks.ok ws f (u + n) ∧ l.ok ws f (u + n)
def Ks.ok (ws : List Str) (f u : Nat) : Ks → Prop
  | .nil => True
  | .cons _ k r => k.ok ws f u ∧ r.ok ws f u
end
mutual
theorem ok_wk {ws : List Str} {f : Nat} : ∀ (k : Kd) {u : Nat}, k.ok ws f u → k.wk f u
  | .int, _, _ => trivial
  | .free n, _, h => h
  | .var n, _, h => h
  | .un w k, _, h => ok_wk k h.2.2
  | .mn m ks, _, h => oks_wk ks h.2.2.2
  | .to n ks l, _, h => ⟨oks_wk ks h.2.2.1, ok_wk l h.2.2.2⟩
theorem oks_wk {ws : List Str} {f : Nat} : ∀ (ks : Ks) {u : Nat}, ks.ok ws f u → ks.wk f u
  | .nil, _, _ => trivial
  | .cons _ k r, _, h => ⟨ok_wk k h.1, oks_wk r h.2⟩
end
theorem hd_d (k : Kd) : isHd k.d = true := by
  cases k with
  | mn m ks => cases m <;> rfl
  | un w k => rfl
  | _ => rfl
theorem hd_ds : ∀ ks : Ks, ks.ds.all isHd = true
  | .nil => rfl
  | .cons b k r => by show (isHd k.d && r.ds.all isHd) = true; rw [hd_d, hd_ds r]; rfl
theorem pr_fs : ∀ ks : Ks, ks.fs.all isPr = true
  | .nil => rfl
  | .cons b k r => by show (true && r.fs.all isPr) = true; rw [pr_fs r]; rfl
theorem pr_gs : ∀ ks : Ks, ks.gs.all isPr = true
  | .nil => rfl
  | .cons b k r => by show (true && r.gs.all isPr) = true; rw [pr_gs r]; rfl
theorem fs_fst : ∀ ks : Ks, ks.fs.map fst = ks.ds
  | .nil => rfl
  | .cons b k r => by show k.d :: r.fs.map fst = _; rw [fs_fst r]; rfl
theorem gs_snd : ∀ ks : Ks, ks.gs.map snd = ks.ds
  | .nil => rfl
  | .cons b k r => by show k.d :: r.gs.map snd = _; rw [gs_snd r]; rfl
theorem gs_fst : ∀ ks : Ks, ks.gs.map fst = ks.tgs
  | .nil => rfl
  | .cons b k r => by show b :: r.gs.map fst = _; rw [gs_fst r]; rfl
theorem fs_bl : ∀ ks : Ks, (ks.fs.all fun p => isBl (snd p)) = ks.tgs.all isBl
  | .nil => rfl
  | .cons b k r => by show (isBl b && r.fs.all _) = _; rw [fs_bl r]; rfl
theorem ds_ne : ∀ {ks : Ks}, 0 < ks.len → ks.ds.isEmpty = false
  | .cons b k r, _ => rfl
mutual
theorem isK_kd {ws : List Str} {f : Nat} : ∀ (k : Kd) (u n : Nat), k.ok ws f u → k.dep < n → isK ws f n (u : Int) k.d = true
  | .int, u, n + 1, h, _ => by
    have h : Str.ofString "int" ∈ ws := h
    simp [Kd.d, isK, form, inn, h]
  | .free v, u, n + 1, h, _ => by
    have h : v < f := h
    simp [Kd.d, isK, form, one1, isNt, numD, h]
  | .var v, u, n + 1, h, _ => by
    have h : v < u := h
    simp [Kd.d, isK, form, one1, isNt, numD, h]
  | .un w k, u, n + 1, h, hd => by
    have h1 := h.1
    have h2 := h.2.1
    have ih := isK_kd k (u + w.bn) n h.2.2 (by simp [Kd.dep] at hd; omega)
    cases w with
    | cel => simp at h1 ih; simp [Kd.d, isK, form, one1, hd_d, inn, bnn, h1, ih]
    | som => simp at h1 ih; simp [Kd.d, isK, form, one1, hd_d, inn, bnn, h1, ih]
    | re => simp at h1 ih; simp [Kd.d, isK, form, one1, hd_d, inn, bnn, h1, ih, h2 rfl]
  | .mn m ks, u, n + 1, h, hd => by
    have h1 := h.1
    have h2 := h.2.1
    have h3 := h.2.2.1
    have ih := isKs_kd ks (u + m.bn) n h.2.2.2 (by simp [Kd.dep] at hd; omega)
    cases m with
    | row => simp only [Mn.bn, Mn.nm, Nat.add_zero] at h1 ih; simp [Kd.d, isK, form, one1, isHds, hd_ds, inn, bnn, h1, items, -List.all_eq_true]; exact ih
    | one => simp only [Mn.bn, Mn.nm, Nat.add_zero] at h1 ih; simp [Kd.d, isK, form, one1, isHds, hd_ds, inn, bnn, h1, items, ds_ne h3, -List.all_eq_true]; exact ih
    | room =>
      simp only [Mn.bn, Mn.nm, Nat.add_zero] at h1 ih
      have h3 : ks.tgs.all isBl = true := h3
      simp only [Kd.d, isK, form, inn, bnn]
      simp [one1, isPrs, pr_fs, fs_bl, fs_fst, h1, items, h3, -List.all_eq_true]; exact ih
    | not b =>
      simp only [Mn.bn, Mn.nm] at h1 h2 ih
      have h2' : (b : Int) ≤ 10000 := by omega
      simp [Kd.d, isK, form, two2, isHds, hd_ds, inn, bnn, h1, items, inB, bnd, h2', numD, -List.all_eq_true]
      simpa using ih
    | code b =>
      simp only [Mn.bn, Mn.nm] at h1 h2 ih
      have h2' : (b : Int) ≤ 10000 := by omega
      have h3 : rising ks.tgs = true := h3
      simp only [Kd.d, isK, form, inn, bnn]
      simp [two2, isPrs, pr_gs, gs_fst, gs_snd, h1, items, inB, bnd, h2', numD, h3, -List.all_eq_true]
      simpa using ih
  | .to b ks l, u, n + 1, h, hd => by
    have h1 := h.1
    have h2 := h.2.1
    have ih := isKs_kd ks (u + b) n h.2.2.1 (by simp [Kd.dep] at hd; omega)
    have il := isK_kd l (u + b) n h.2.2.2 (by simp [Kd.dep] at hd; omega)
    have h2' : (b : Int) ≤ 10000 := by omega
    simp only [Int.natCast_add] at ih il
    simp only [Kd.d, isK, form, inn, bnn]
    simp [three3, isHds, hd_ds, hd_d, h1, items, inB, bnd, h2', numD, il, -List.all_eq_true]
    exact ih
theorem isKs_kd {ws : List Str} {f : Nat} : ∀ (ks : Ks) (u n : Nat), ks.ok ws f u → ks.dep < n → ks.ds.all (isK ws f n (u : Int)) = true
  | .nil, u, n, _, _ => rfl
  | .cons b k r, u, n, h, hd => by
    show (isK ws f n u k.d && r.ds.all _) = true
    rw [isK_kd k u n h.1 (by simp [Ks.dep] at hd; omega), isKs_kd r u n h.2 (by simp [Ks.dep] at hd; omega)]; rfl
end
mutual
theorem pl_kd {ws : List Str} {f : Nat} (hw : ∀ b : D, isBl b = true ∨ isNt b = true → pl b = true) : ∀ (k : Kd) (u : Nat), k.ok ws f u → k.sm → pl k.d = true
  | .int, u, _, _ => by simp [Kd.d, pl, pls]
  | .free v, u, _, _ => by simp [Kd.d, pl, pls]
  | .var v, u, _, _ => by simp [Kd.d, pl, pls]
  | .un w k, u, h, hs => by
    have ih := pl_kd hw k (u + w.bn) h.2.2 hs
    cases w <;> simp [Kd.d, pl, pls, ih]
  | .mn m ks, u, h, hs => by
    have ih := pls_kd hw ks (u + m.bn) h.2.2.2 hs.2
    have hz : ks.len ≤ 1000000 := by have := hs.1; omega
    cases m with
    | row => simp [Kd.d, pl, pls, ih, hz]
    | one => simp [Kd.d, pl, pls, ih, hz]
    | not b => simp [Kd.d, pl, pls, ih, hz]
    | room =>
      have h3 : ks.tgs.all isBl = true := h.2.2.1
      have := pls_fs ks ih fun b hb => hw b (.inl (List.all_eq_true.mp h3 b hb))
      simp [Kd.d, pl, pls, this, hz]
    | code b =>
      have h3 : rising ks.tgs = true := h.2.2.1
      simp only [rising, Bool.and_eq_true] at h3
      have := pls_gs ks ih fun b hb => hw b (.inr (List.all_eq_true.mp h3.1 b hb))
      simp [Kd.d, pl, pls, this, hz]
  | .to b ks l, u, h, hs => by
    have ih := pls_kd hw ks (u + b) h.2.2.1 hs.2.1
    have il := pl_kd hw l (u + b) h.2.2.2 hs.2.2
    have hz : ks.len ≤ 1000000 := by have := hs.1; omega
    simp [Kd.d, pl, pls, ih, il, hz]
theorem pls_kd {ws : List Str} {f : Nat} (hw : ∀ b : D, isBl b = true ∨ isNt b = true → pl b = true) : ∀ (ks : Ks) (u : Nat), ks.ok ws f u → ks.sm → pls ks.ds = true
  | .nil, u, _, _ => rfl
  | .cons b k r, u, h, hs => by
    show (pl k.d && pls r.ds) = true
    rw [pl_kd hw k u h.1 hs.1, pls_kd hw r u h.2 hs.2]; rfl
theorem pls_fs : ∀ (ks : Ks), pls ks.ds = true → (∀ b ∈ ks.tgs, pl b = true) → pls ks.fs = true
  | .nil, _, _ => rfl
  | .cons b k r, h, hb => by
    simp only [Ks.ds, pls, Bool.and_eq_true] at h
    have h1 := pls_fs r h.2 fun c hc => hb c (List.mem_cons_of_mem _ hc)
    have h2 := hb b List.mem_cons_self
    simp [Ks.fs, pl, pls, h.1, h1, h2]
theorem pls_gs : ∀ (ks : Ks), pls ks.ds = true → (∀ b ∈ ks.tgs, pl b = true) → pls ks.gs = true
  | .nil, _, _ => rfl
  | .cons b k r, h, hb => by
    simp only [Ks.ds, pls, Bool.and_eq_true] at h
    have h1 := pls_gs r h.2 fun c hc => hb c (List.mem_cons_of_mem _ hc)
    have h2 := hb b List.mem_cons_self
    simp [Ks.gs, pl, pls, h.1, h1, h2]
end
theorem tag_pl (b : D) (h : isBl b = true ∨ isNt b = true) : pl b = true := by
  rcases h with h | h <;> cases b <;> first | rfl | cases h
theorem kd_pl {ws : List Str} {f u : Nat} {k : Kd} (h : k.ok ws f u) (hs : k.sm) : pl k.d = true := pl_kd tag_pl k u h hs
theorem tag_dep {b : D} (h : isBl b = true ∨ isNt b = true) : b.dep = 0 := by
  rcases h with h | h <;> cases b <;> first | rfl | cases h
mutual
theorem dep_kd {ws : List Str} {f : Nat} : ∀ (k : Kd) (u : Nat), k.ok ws f u → k.d.dep ≤ 3 * k.dep + 1
  | .int, u, _ => by simp [Kd.d, D.dep, D.deps]
  | .free v, u, _ => by simp [Kd.d, D.dep, D.deps]
  | .var v, u, _ => by simp [Kd.d, D.dep, D.deps]
  | .un w k, u, h => by
    have ih := dep_kd k (u + w.bn) h.2.2
    cases w <;> simp [Kd.d, D.dep, D.deps, Kd.dep] <;> omega
  | .mn m ks, u, h => by
    have ih := deps_kd ks (u + m.bn) h.2.2.2
    cases m with
    | row => simp [Kd.d, D.dep, D.deps, Kd.dep]; omega
    | one => simp [Kd.d, D.dep, D.deps, Kd.dep]; omega
    | not b => simp [Kd.d, D.dep, D.deps, Kd.dep]; omega
    | room =>
      have h3 : ks.tgs.all isBl = true := h.2.2.1
      have := deps_fs ks fun b hb => .inl (List.all_eq_true.mp h3 b hb)
      simp [Kd.d, D.dep, D.deps, Kd.dep]; omega
    | code b =>
      have h3 : rising ks.tgs = true := h.2.2.1
      simp only [rising, Bool.and_eq_true] at h3
      have := deps_gs ks fun b hb => .inr (List.all_eq_true.mp h3.1 b hb)
      simp [Kd.d, D.dep, D.deps, Kd.dep]; omega
  | .to b ks l, u, h => by
    have ih := deps_kd ks (u + b) h.2.2.1
    have il := dep_kd l (u + b) h.2.2.2
    simp [Kd.d, D.dep, D.deps, Kd.dep]; omega
theorem deps_kd {ws : List Str} {f : Nat} : ∀ (ks : Ks) (u : Nat), ks.ok ws f u → D.deps ks.ds ≤ 3 * ks.dep + 1
  | .nil, u, _ => by simp [Ks.ds, D.deps]
  | .cons b k r, u, h => by
    have h1 := dep_kd k u h.1
    have h2 := deps_kd r u h.2
    simp [Ks.ds, D.deps, Ks.dep]; omega
theorem deps_fs : ∀ (ks : Ks), (∀ b ∈ ks.tgs, isBl b = true ∨ isNt b = true) → D.deps ks.fs ≤ D.deps ks.ds + 1
  | .nil, _ => by simp [Ks.fs, D.deps]
  | .cons b k r, hb => by
    have h1 := deps_fs r fun c hc => hb c (List.mem_cons_of_mem _ hc)
    have h2 := tag_dep (hb b List.mem_cons_self)
    simp [Ks.fs, Ks.ds, D.deps, D.dep, h2]; omega
theorem deps_gs : ∀ (ks : Ks), (∀ b ∈ ks.tgs, isBl b = true ∨ isNt b = true) → D.deps ks.gs ≤ D.deps ks.ds + 1
  | .nil, _ => by simp [Ks.gs, D.deps]
  | .cons b k r, hb => by
    have h1 := deps_gs r fun c hc => hb c (List.mem_cons_of_mem _ hc)
    have h2 := tag_dep (hb b List.mem_cons_self)
    simp [Ks.gs, Ks.ds, D.deps, D.dep, h2]; omega
end
theorem kd_pn {ws : List Str} {f u : Nat} {k : Kd} (h : k.ok ws f u) (hs : k.sm) {n : Nat} (hd : k.dep ≤ n) : PN (3 * n + 1) k.d := ⟨kd_pl h hs, by have := dep_kd k u h; omega⟩
/-- kinds in a row -/
def Ks.of : List Kd → Ks
  | [] => .nil
  | k :: r => .cons .non k (Ks.of r)
def Ks.ofT : List (D × Kd) → Ks
  | [] => .nil
  | (b, k) :: r => .cons b k (Ks.ofT r)
theorem of_ds : ∀ ks : List Kd, (Ks.of ks).ds = ks.map Kd.d
  | [] => rfl
  | k :: r => by show k.d :: (Ks.of r).ds = _; rw [of_ds r]; rfl
theorem of_len : ∀ ks : List Kd, (Ks.of ks).len = ks.length
  | [] => rfl
  | k :: r => by show (Ks.of r).len + 1 = _; rw [of_len r]; rfl
theorem ofT_fs : ∀ ks : List (D × Kd), (Ks.ofT ks).fs = ks.map fun p => .tup [p.2.d, p.1]
  | [] => rfl
  | (b, k) :: r => by show D.tup [k.d, b] :: (Ks.ofT r).fs = _; rw [ofT_fs r]; rfl
theorem ofT_gs : ∀ ks : List (D × Kd), (Ks.ofT ks).gs = ks.map fun p => .tup [p.1, p.2.d]
  | [] => rfl
  | (b, k) :: r => by show D.tup [b, k.d] :: (Ks.ofT r).gs = _; rw [ofT_gs r]; rfl
theorem ofT_tgs : ∀ ks : List (D × Kd), (Ks.ofT ks).tgs = ks.map (·.1)
  | [] => rfl
  | (b, k) :: r => by show b :: (Ks.ofT r).tgs = _; rw [ofT_tgs r]; rfl
theorem ofT_len : ∀ ks : List (D × Kd), (Ks.ofT ks).len = ks.length
  | [] => rfl
  | (b, k) :: r => by show (Ks.ofT r).len + 1 = _; rw [ofT_len r]; rfl
/-- a good kind -/
structure Gd (ws : List Str) (f u dp : Nat) (k : Kd) : Prop where
  ok : k.ok ws f u
  sm : k.sm
  dep : k.dep ≤ dp
structure Gds (ws : List Str) (f u dp : Nat) (k : Ks) : Prop where
  ok : k.ok ws f u
  sm : k.sm
  dep : k.dep ≤ dp
theorem of_gd {ws : List Str} {f u dp : Nat} : ∀ {ks : List Kd}, (∀ k ∈ ks, Gd ws f u dp k) → Gds ws f u dp (Ks.of ks)
  | [], _ => ⟨trivial, trivial, Nat.zero_le _⟩
  | k :: r, h => by
    have h1 := h k List.mem_cons_self
    have h2 := of_gd fun c hc => h c (List.mem_cons_of_mem _ hc)
    exact ⟨⟨h1.ok, h2.ok⟩, ⟨h1.sm, h2.sm⟩, Nat.max_le.mpr ⟨h1.dep, h2.dep⟩⟩
theorem ofT_gd {ws : List Str} {f u dp : Nat} : ∀ {ks : List (D × Kd)}, (∀ k ∈ ks, Gd ws f u dp k.2) → Gds ws f u dp (Ks.ofT ks)
  | [], _ => ⟨trivial, trivial, Nat.zero_le _⟩
  | (b, k) :: r, h => by
    have h1 := h (b, k) List.mem_cons_self
    have h2 := ofT_gd fun c hc => h c (List.mem_cons_of_mem _ hc)
    exact ⟨⟨h1.ok, h2.ok⟩, ⟨h1.sm, h2.sm⟩, Nat.max_le.mpr ⟨h1.dep, h2.dep⟩⟩
/-! ### loops that draw -/
theorem lcS {Z : Type} {turn : D → Hh → R (Option D)} {Inv : Hh → Prop} (e : Z → D) (Q : Z → Prop) : ∀ {xs : List D} {acc : List D} {h : Hh}, Inv h → (∀ x ∈ xs, ∀ h, Inv h → ∃ z h', turn x h = .ok (some (e z)) h' ∧ Q z ∧ Inv h') →
    ∃ (zs : List Z) (h' : Hh), lcLoop (fun _ => true) turn xs acc h = .ok (.lst (acc ++ zs.map e)) h' ∧ zs.length = xs.length ∧ (∀ z ∈ zs, Q z) ∧ Inv h'
  | [], acc, h, hi, _ => ⟨[], h, by unfold lcLoop; simp, rfl, by simp, hi⟩
  | x :: xs, acc, h, hi, t => by
    obtain ⟨z, h1, e1, q1, i1⟩ := t x List.mem_cons_self h hi
    obtain ⟨zs, h2, e2, l2, q2, i2⟩ := lcS e Q (xs := xs) (acc := acc ++ [e z]) i1 fun y hy => t y (List.mem_cons_of_mem _ hy)
    refine ⟨z :: zs, h2, ?_, by simp [l2], ?_, i2⟩
    · unfold lcLoop
      rw [if_pos rfl, e1]
      dsimp only
      rw [e2]; simp
    · intro y hy
      (rcases List.mem_cons.mp hy with rfl | hy)
      · exact q1
      · exact q2 y hy
theorem lcW {turn : D → Hh → R (Option D)} {h : Hh} (p : Str → Bool) : ∀ {xs : List Str} {acc : List D}, (∀ x ∈ xs, turn (.str x) h = .ok (if p x then some (.str x) else none) h) → lcLoop (fun _ => true) turn (xs.map D.str) acc h = .ok (.lst (acc ++ (xs.filter p).map D.str)) h
  | [], acc, _ => by unfold lcLoop; simp
  | x :: xs, acc, t => by
    show lcLoop _ turn (D.str x :: xs.map D.str) acc h = _
    unfold lcLoop
    rw [if_pos rfl, t x List.mem_cons_self]
    have ih := fun acc => lcW p (xs := xs) (acc := acc) fun y hy => t y (List.mem_cons_of_mem _ hy)
    cases q : p x with
    | false => simp only [Bool.false_eq_true, if_false]; rw [ih, List.filter_cons_of_neg (by simp [q])]
    | true => simp only [if_true]; rw [ih, List.filter_cons_of_pos q]; simp
end Kn
end

section
/-! KdP: replacings of good kinds. No program in sight. -/
set_option maxRecDepth 100000
namespace Kn
open PySem PV
mutual
/-- the same, where they are the same at the variables in scope, s more around -/
theorem tr_eqs {g g' : Leaf} {F s : Nat} : ∀ (k : Kd) (u : Nat), k.wk F (u + s) → (∀ v, u ≤ v → (∀ n, n < F → g v true n = g' v true n) ∧ ∀ n, n < v + s → g v false n = g' v false n) → k.tr g u = k.tr g' u
  | .int, u, _, _ => rfl
  | .free n, u, hw, h => (h u (Nat.le_refl _)).1 n hw
  | .var n, u, hw, h => (h u (Nat.le_refl _)).2 n hw
  | .un w k, u, hw, h => by
    have hw : k.wk F (u + s + w.bn) := hw
    simp only [Kd.tr]; rw [tr_eqs k (u + w.bn) (by rw [Nat.add_right_comm]; exact hw) fun v hv => h v (by omega)]
  | .mn m ks, u, hw, h => by
    have hw : ks.wk F (u + s + m.bn) := hw
    simp only [Kd.tr]; rw [trs_eqs ks (u + m.bn) (by rw [Nat.add_right_comm]; exact hw) fun v hv => h v (by omega)]
  | .to n ks l, u, hw, h => by
    have h1 : ks.wk F (u + s + n) := hw.1
    have h2 : l.wk F (u + s + n) := hw.2
    simp only [Kd.tr]; rw [trs_eqs ks (u + n) (by rw [Nat.add_right_comm]; exact h1) fun v hv => h v (by omega), tr_eqs l (u + n) (by rw [Nat.add_right_comm]; exact h2) fun v hv => h v (by omega)]
theorem trs_eqs {g g' : Leaf} {F s : Nat} : ∀ (ks : Ks) (u : Nat), ks.wk F (u + s) → (∀ v, u ≤ v → (∀ n, n < F → g v true n = g' v true n) ∧ ∀ n, n < v + s → g v false n = g' v false n) → ks.tr g u = ks.tr g' u
  | .nil, u, _, _ => rfl
  | .cons b k r, u, hw, h => by simp only [Ks.tr]; rw [tr_eqs k u hw.1 h, trs_eqs r u hw.2 h]
end
theorem tgs_tr (g : Leaf) (u : Nat) : ∀ ks : Ks, (ks.tr g u).tgs = ks.tgs
  | .nil => rfl
  | .cons b k r => by show b :: (r.tr g u).tgs = _; rw [tgs_tr g u r]; rfl
theorem tagOk_tr {g : Leaf} {u : Nat} {ks : Ks} {m : Mn} (h : m.tagOk ks) : m.tagOk (ks.tr g u) := by
  cases m with
  | one => show 0 < (ks.tr g u).len; rw [tr_len]; exact h
  | room => show (ks.tr g u).tgs.all isBl = true; rw [tgs_tr]; exact h
  | code n => show rising (ks.tr g u).tgs = true; rw [tgs_tr]; exact h
  | _ => trivial
theorem hdV_tr {g : Leaf} {u : Nat} {k : Kd} (h : hdV k.d = false) : hdV (k.tr g u).d = false := by
  cases k with
  | int => rfl
  | free n => simp [hdV, Kd.d] at h
  | var n => simp [hdV, Kd.d] at h
  | un w k => cases w <;> simp [hdV, Kd.d, Kd.tr]
  | mn m ks => cases m <;> simp [hdV, Kd.d, Kd.tr]
  | to n ks l => simp [hdV, Kd.d, Kd.tr]
mutual
/-- good kinds stay good; s: how many more the old scope has -/
theorem tr_ok {g : Leaf} {ws : List Str} {F F' s t : Nat} : ∀ (k : Kd) (u : Nat), k.ok ws F (u + s) → (∀ v, u ≤ v → (∀ n, n < F → (g v true n).ok ws F' (v + t)) ∧ ∀ n, n < v + s → (g v false n).ok ws F' (v + t)) → (k.tr g u).ok ws F' (u + t)
  | .int, u, hw, _ => hw
  | .free n, u, hw, h => (h u (Nat.le_refl _)).1 n hw
  | .var n, u, hw, h => (h u (Nat.le_refl _)).2 n hw
  | .un w k, u, hw, h => by
    have h3 : k.ok ws F (u + s + w.bn) := hw.2.2
    have := tr_ok k (u + w.bn) (by rw [Nat.add_right_comm]; exact h3) fun v hv => h v (by omega)
    exact ⟨hw.1, fun e => hdV_tr (hw.2.1 e), by rw [Nat.add_right_comm] at this; exact this⟩
  | .mn m ks, u, hw, h => by
    have h3 : ks.ok ws F (u + s + m.bn) := hw.2.2.2
    have := trs_ok ks (u + m.bn) (by rw [Nat.add_right_comm]; exact h3) fun v hv => h v (by omega)
    exact ⟨hw.1, hw.2.1, tagOk_tr hw.2.2.1, by rw [Nat.add_right_comm] at this; exact this⟩
  | .to n ks l, u, hw, h => by
    have h3 : ks.ok ws F (u + s + n) := hw.2.2.1
    have h4 : l.ok ws F (u + s + n) := hw.2.2.2
    have a := trs_ok ks (u + n) (by rw [Nat.add_right_comm]; exact h3) fun v hv => h v (by omega)
    have b := tr_ok l (u + n) (by rw [Nat.add_right_comm]; exact h4) fun v hv => h v (by omega)
    exact ⟨hw.1, hw.2.1, by rw [Nat.add_right_comm] at a; exact a, by rw [Nat.add_right_comm] at b; exact b⟩
theorem trs_ok {g : Leaf} {ws : List Str} {F F' s t : Nat} : ∀ (ks : Ks) (u : Nat), ks.ok ws F (u + s) → (∀ v, u ≤ v → (∀ n, n < F → (g v true n).ok ws F' (v + t)) ∧ ∀ n, n < v + s → (g v false n).ok ws F' (v + t)) → (ks.tr g u).ok ws F' (u + t)
  | .nil, u, _, _ => trivial
  | .cons b k r, u, hw, h => ⟨tr_ok k u hw.1 h, trs_ok r u hw.2 h⟩
end
mutual
theorem ok_le {ws : List Str} {F F' : Nat} : ∀ (k : Kd) {u u' : Nat}, k.ok ws F u → F ≤ F' → u ≤ u' → k.ok ws F' u'
  | .int, _, _, h, _, _ => h
  | .free n, _, _, h, hf, _ => Nat.lt_of_lt_of_le h hf
  | .var n, _, _, h, _, hu => Nat.lt_of_lt_of_le h hu
  | .un w k, u, u', h, hf, hu => ⟨h.1, h.2.1, ok_le k h.2.2 hf (by omega)⟩
  | .mn m ks, u, u', h, hf, hu => ⟨h.1, h.2.1, h.2.2.1, oks_le ks h.2.2.2 hf (by omega)⟩
  | .to n ks l, u, u', h, hf, hu => ⟨h.1, h.2.1, oks_le ks h.2.2.1 hf (by omega), ok_le l h.2.2.2 hf (by omega)⟩
theorem oks_le {ws : List Str} {F F' : Nat} : ∀ (ks : Ks) {u u' : Nat}, ks.ok ws F u → F ≤ F' → u ≤ u' → ks.ok ws F' u'
  | .nil, _, _, _, _, _ => trivial
  | .cons b k r, _, _, h, hf, hu => ⟨ok_le k h.1 hf hu, oks_le r h.2 hf hu⟩
end
mutual
theorem ok_ws {ws ws' : List Str} {F : Nat} (hs : ∀ w ∈ ws, w ∈ ws') : ∀ (k : Kd) {u : Nat}, k.ok ws F u → k.ok ws' F u
  | .int, _, h => hs _ h
  | .free n, _, h => h
  | .var n, _, h => h
  | .un w k, u, h => ⟨hs _ h.1, h.2.1, ok_ws hs k h.2.2⟩
  | .mn m ks, u, h => ⟨hs _ h.1, h.2.1, h.2.2.1, oks_ws hs ks h.2.2.2⟩
  | .to n ks l, u, h => ⟨hs _ h.1, h.2.1, oks_ws hs ks h.2.2.1, ok_ws hs l h.2.2.2⟩
theorem oks_ws {ws ws' : List Str} {F : Nat} (hs : ∀ w ∈ ws, w ∈ ws') : ∀ (ks : Ks) {u : Nat}, ks.ok ws F u → ks.ok ws' F u
  | .nil, _, _ => trivial
  | .cons b k r, _, h => ⟨ok_ws hs k h.1, oks_ws hs r h.2⟩
end
/-- closed kinds, put in -/
theorem putG_ok {ws : List Str} {F : Nat} {ss : List Kd} (h : ∀ k ∈ ss, k.ok ws F 0) (v : Nat) : (∀ n, n < F → (putG ss v true n).ok ws F (v + 0)) ∧ ∀ n, n < v + ss.length → (putG ss v false n).ok ws F (v + 0) := by
  refine ⟨fun n hn => hn, fun n hn => ?_⟩
  unfold putG
  (simp only [Bool.false_eq_true, if_false])
  split
  · rename_i hv; exact hv
  · rename_i hv
    have : n - v < ss.length := by omega
    rw [List.getElem?_eq_getElem this]
    exact ok_le _ (h _ (List.getElem_mem this)) (Nat.le_refl _) (Nat.zero_le _)
/-- the first ones, when more are bound -/
theorem putG_ok2 {ws : List Str} {F s : Nat} {ss : List Kd} (h : ∀ k ∈ ss, k.ok ws F 0) (hs : ss.length ≤ s) (v : Nat) : (∀ n, n < F → (putG ss v true n).ok ws F (v + (s - ss.length))) ∧ ∀ n, n < v + s → (putG ss v false n).ok ws F (v + (s - ss.length)) := by
  refine ⟨fun n hn => hn, fun n hn => ?_⟩
  unfold putG
  (simp only [Bool.false_eq_true, if_false])
  split
  · show n < v + (s - ss.length); omega
  · rename_i hv
    by_cases hq : n - v < ss.length
    · rw [List.getElem?_eq_getElem hq]
      exact ok_le _ (h _ (List.getElem_mem hq)) (Nat.le_refl _) (Nat.zero_le _)
    · rw [List.getElem?_eq_none (by omega)]
      show n - ss.length < v + (s - ss.length); omega
theorem putG_sm {ss : List Kd} (h : ∀ k ∈ ss, k.sm) (v : Nat) (f : Bool) (n : Nat) : (putG ss v f n).sm := by
  unfold putG
  split
  · trivial
  · split
    · trivial
    · cases e : ss[n - v]? with
      | none => trivial
      | some k => exact h k (List.mem_of_getElem? e)
theorem putG_dep {ss : List Kd} {N : Nat} (h : ∀ k ∈ ss, k.dep ≤ N) (v : Nat) (f : Bool) (n : Nat) : (putG ss v f n).dep ≤ N := by
  unfold putG
  split
  · exact Nat.zero_le _
  · split
    · exact Nat.zero_le _
    · cases e : ss[n - v]? with
      | none => exact Nat.zero_le _
      | some k => exact h k (List.mem_of_getElem? e)
theorem putG_stay {F : Nat} {ss : List Kd} (k : Kd) (u : Nat) (h : k.wk F 0) : k.tr (putG ss) u = k :=
  tr_stay (F := F) k u (wk_le k h (Nat.le_refl _) (Nat.zero_le _)) fun v hv => ⟨fun n _ => rfl, fun n hn => by unfold putG; simp [hn]⟩
/-- first some, then the others: all -/
theorem put_put {F : Nat} {ss : List Kd} (h : ∀ k ∈ ss, k.wk F 0) (f : Nat) (hf : f ≤ ss.length) (ks : Ks) (hw : ks.wk F ss.length) : (ks.tr (putG (ss.take f)) 0).tr (putG (ss.drop f)) 0 = ks.tr (putG ss) 0 := by
  rw [trs_trs]
  refine trs_eqs (F := F) (s := ss.length) ks 0 (by rw [Nat.zero_add]; exact hw) fun v _ => ⟨fun n _ => rfl, fun n hn => ?_⟩
  have hl : (ss.take f).length = f := by rw [List.length_take]; omega
  by_cases h1 : n < v
  · simp [putG, h1, Kd.tr]
  · by_cases h2 : n - v < f
    · have e1 : (ss.take f)[n - v]? = some ss[n - v] := by rw [List.getElem?_take_of_lt h2, List.getElem?_eq_getElem (by omega)]
      have e2 : ss[n - v]? = some ss[n - v] := List.getElem?_eq_getElem (by omega)
      have a1 : putG (ss.take f) v false n = ss[n - v] := by unfold putG; simp only [Bool.false_eq_true, if_false, h1]; rw [e1]
      have a2 : putG ss v false n = ss[n - v] := by unfold putG; simp only [Bool.false_eq_true, if_false, h1]; rw [e2]
      rw [a1, a2]
      exact putG_stay (F := F) _ v (h _ (List.getElem_mem _))
    · have e1 : (ss.take f)[n - v]? = none := List.getElem?_eq_none (by omega)
      have e2 : ss[n - v]? = some ss[n - v] := List.getElem?_eq_getElem (by omega)
      have a1 : putG (ss.take f) v false n = .var (n - f) := by unfold putG; simp only [Bool.false_eq_true, if_false, h1]; rw [e1, hl]
      have a2 : putG ss v false n = ss[n - v] := by unfold putG; simp only [Bool.false_eq_true, if_false, h1]; rw [e2]
      rw [a1, a2]
      have h3 : ¬ n - f < v := by omega
      have e3 : (ss.drop f)[n - f - v]? = some ss[n - v] := by
        rw [List.getElem?_drop]
        have : f + (n - f - v) = n - v := by omega
        rw [this]; exact e2
      show putG (ss.drop f) v false (n - f) = _
      unfold putG; simp only [Bool.false_eq_true, if_false, h3]; rw [e3]
/-- opened behind shut is filled -/
theorem shut_put (k k0 : Kd) (hw : k.wk 4 0) : (k.tr (shutG [2]) 0).tr (putG [k0]) 0 = k.tr (fillG [.free 0, .free 1, k0, .free 3]) 0 := by
  rw [tr_tr]
  refine tr_eq (F := 4) k 0 hw fun v _ => ⟨fun n hn => ?_, fun n hn => ?_⟩
  · have : n = 0 ∨ n = 1 ∨ n = 2 ∨ n = 3 := by omega
    rcases this with rfl | rfl | rfl | rfl
    · rfl
    · rfl
    · show (Kd.var (v + 0)).tr (putG [k0]) v = _
      simp [Kd.tr, putG, fillG]
    · rfl
  · simp [shutG, hn, Kd.tr, putG, fillG]
end Kn
end

section
/-! KdT: kinds of core, turned. No program in sight. -/
set_option maxRecDepth 100000
namespace Kn
open PySem PV
def CW : List Str := ["cell", "int", "one", "rec", "row", "some", "to"]
def TW : List Str := ["cell", "int", "not", "one", "rec", "row", "some"]
def Ks.snoc : Ks → Kd → Ks
  | .nil, x => .cons .non x .nil
  | .cons b k r, x => .cons b k (r.snoc x)
@[simp] theorem snoc_ds : ∀ (ks : Ks) (x : Kd), (ks.snoc x).ds = ks.ds ++ [x.d]
  | .nil, x => rfl
  | .cons b k r, x => by show k.d :: (r.snoc x).ds = _; rw [snoc_ds r x]; rfl
@[simp] theorem snoc_len : ∀ (ks : Ks) (x : Kd), (ks.snoc x).len = ks.len + 1
  | .nil, x => rfl
  | .cons b k r, x => by show (r.snoc x).len + 1 = r.len + 1 + 1; rw [snoc_len r x]
theorem snoc_tr (g : Leaf) (u : Nat) : ∀ (ks : Ks) (x : Kd), (ks.snoc x).tr g u = (ks.tr g u).snoc (x.tr g u)
  | .nil, x => rfl
  | .cons b k r, x => by show Ks.cons b (k.tr g u) ((r.snoc x).tr g u) = _; rw [snoc_tr g u r x]; rfl
theorem snoc_ok {ws : List Str} {F u : Nat} : ∀ (ks : Ks) (x : Kd), ks.ok ws F u → x.ok ws F u → (ks.snoc x).ok ws F u
  | .nil, x, _, h => ⟨h, trivial⟩
  | .cons b k r, x, h, hx => ⟨h.1, snoc_ok r x h.2 hx⟩
theorem snoc_sm : ∀ (ks : Ks) (x : Kd), ks.sm → x.sm → (ks.snoc x).sm
  | .nil, x, _, h => ⟨h, trivial⟩
  | .cons b k r, x, h, hx => ⟨h.1, snoc_sm r x h.2 hx⟩
theorem snoc_dep : ∀ (ks : Ks) (x : Kd), (ks.snoc x).dep = max ks.dep x.dep
  | .nil, x => by show max x.dep 0 = max 0 x.dep; omega
  | .cons b k r, x => by show max k.dep (r.snoc x).dep = max (max k.dep r.dep) x.dep; rw [snoc_dep r x]; omega
mutual
/-- what a kind of core becomes -/
def Kd.tn : Kd → Kd
  | .int => .int
  | .free n => .free n
  | .var n => .var n
  | .un w k => .un w k.tn
  | .mn m ks => .mn m ks.tns
  | .to n ks l => .mn (.not n) (ks.tns.snoc (.mn (.not 0) (.cons .non l.tn .nil)))
def Ks.tns : Ks → Ks
  | .nil => .nil
  | .cons b k r => .cons b k.tn r.tns
end
@[simp] theorem tns_len : ∀ ks : Ks, ks.tns.len = ks.len
  | .nil => rfl
  | .cons _ _ r => by show r.tns.len + 1 = r.len + 1; rw [tns_len r]
theorem tns_tgs : ∀ ks : Ks, ks.tns.tgs = ks.tgs
  | .nil => rfl
  | .cons b k r => by show b :: r.tns.tgs = _; rw [tns_tgs r]; rfl
mutual
/-- turned behind replaced -/
theorem tn_tr (g : Leaf) : ∀ (k : Kd) (u : Nat), (k.tr g u).tn = k.tn.tr (fun u f n => (g u f n).tn) u
  | .int, u => rfl
  | .free n, u => rfl
  | .var n, u => rfl
  | .un w k, u => by simp only [Kd.tr, Kd.tn, tn_tr g k]
  | .mn m ks, u => by simp only [Kd.tr, Kd.tn, tns_tr g ks]
  | .to n ks l, u => by simp only [Kd.tr, Kd.tn, tns_tr g ks, tn_tr g l, snoc_tr, Ks.tr, Mn.bn, Nat.add_zero]
theorem tns_tr (g : Leaf) : ∀ (ks : Ks) (u : Nat), (ks.tr g u).tns = ks.tns.tr (fun u f n => (g u f n).tn) u
  | .nil, u => rfl
  | .cons b k r, u => by simp only [Ks.tr, Ks.tns, tn_tr g k, tns_tr g r]
end
theorem putG_tn (ss : List Kd) : (fun u f n => (putG ss u f n).tn) = putG (ss.map Kd.tn) := by
  funext u f n
  unfold putG
  cases f with
  | true => rfl
  | false =>
    (simp only [Bool.false_eq_true, if_false])
    split
    · rfl
    · rw [List.getElem?_map, List.length_map]
      cases ss[n - u]? <;> rfl
theorem fillG_tn (ss : List Kd) : (fun u f n => (fillG ss u f n).tn) = fillG (ss.map Kd.tn) := by
  funext u f n
  unfold fillG
  cases f with
  | false => rfl
  | true =>
    simp only [if_true, List.getD_eq_getElem?_getD, List.getElem?_map]
    cases ss[n]? <;> rfl
mutual
/-- rows are shorter still -/
def Kd.tw : Kd → Prop
  | .un _ k => k.tw
  | .mn _ ks => ks.len ≤ 900 ∧ ks.tw
  | .to _ ks l => ks.len ≤ 900 ∧ ks.tw ∧ l.tw
  | _ => True
def Ks.tw : Ks → Prop
  | .nil => True
  | .cons _ k r => k.tw ∧ r.tw
end
mutual
theorem tw_sm : ∀ k : Kd, k.tw → k.sm
  | .int, _ => trivial
  | .free _, _ => trivial
  | .var _, _ => trivial
  | .un w k, h => tw_sm k h
  | .mn m ks, h => ⟨Nat.le_trans h.1 (by omega), tws_sm ks h.2⟩
  | .to n ks l, h => ⟨Nat.le_trans h.1 (by omega), tws_sm ks h.2.1, tw_sm l h.2.2⟩
theorem tws_sm : ∀ k : Ks, k.tw → k.sm
  | .nil, _ => trivial
  | .cons b k r, h => ⟨tw_sm k h.1, tws_sm r h.2⟩
end
mutual
theorem tw_tn : ∀ k : Kd, k.tw → k.tn.sm
  | .int, _ => trivial
  | .free _, _ => trivial
  | .var _, _ => trivial
  | .un w k, h => tw_tn k h
  | .mn m ks, h => ⟨by rw [tns_len]; exact Nat.le_trans h.1 (by omega), tws_tn ks h.2⟩
  | .to n ks l, h => ⟨by rw [snoc_len, tns_len]; have := h.1; omega, snoc_sm _ _ (tws_tn ks h.2.1) ⟨by show 1 ≤ 1000; omega, tw_tn l h.2.2, trivial⟩⟩
theorem tws_tn : ∀ k : Ks, k.tw → k.tns.sm
  | .nil, _ => trivial
  | .cons b k r, h => ⟨tw_tn k h.1, tws_tn r h.2⟩
end
mutual
theorem tn_dep : ∀ k : Kd, k.tn.dep ≤ 2 * k.dep
  | .int => Nat.zero_le _
  | .free _ => Nat.zero_le _
  | .var _ => Nat.zero_le _
  | .un w k => by have := tn_dep k; simp only [Kd.tn, Kd.dep]; omega
  | .mn m ks => by have := tns_dep ks; simp only [Kd.tn, Kd.dep]; omega
  | .to n ks l => by have := tns_dep ks; have := tn_dep l; simp only [Kd.tn, Kd.dep, snoc_dep, Ks.dep]; omega
theorem tns_dep : ∀ k : Ks, k.tns.dep ≤ 2 * k.dep
  | .nil => Nat.zero_le _
  | .cons b k r => by have := tn_dep k; have := tns_dep r; simp only [Ks.tns, Ks.dep]; omega
end
theorem tn_hdV {k : Kd} (h : hdV k.d = false) : hdV k.tn.d = false := by
  cases k with
  | int => rfl
  | free n => simp [hdV, Kd.d] at h
  | var n => simp [hdV, Kd.d] at h
  | un w k => cases w <;> simp [hdV, Kd.d, Kd.tn]
  | mn m ks => cases m <;> simp [hdV, Kd.d, Kd.tn]
  | to n ks l => simp [hdV, Kd.d, Kd.tn]
theorem cw_tw {w : Str} (h : w ∈ CW) (h2 : w ≠ "to") : w ∈ TW := by
  simp [CW] at h
  rcases h with rfl | rfl | rfl | rfl | rfl | rfl | rfl <;> first | (simp [TW]; done) | exact absurd rfl h2
mutual
theorem tn_ok {F : Nat} : ∀ (k : Kd) {u : Nat}, k.ok CW F u → k.tn.ok TW F u
  | .int, u, h => by show Str.ofString "int" ∈ TW; simp [TW]
  | .free n, u, h => h
  | .var n, u, h => h
  | .un w k, u, h => ⟨by cases w <;> simp [TW], fun e => tn_hdV (h.2.1 e), tn_ok k h.2.2⟩
  | .mn m ks, u, h => by
    have h1 := h.1
    have h3 := h.2.2.1
    have ih := tns_ok ks h.2.2.2
    cases m with
    | row => exact ⟨by simp [TW], h.2.1, trivial, ih⟩
    | one => exact ⟨by simp [TW], h.2.1, by show 0 < ks.tns.len; rw [tns_len]; exact h3, ih⟩
    | room => simp [CW] at h1
    | not b => simp [CW] at h1
    | code b => simp [CW] at h1
  | .to n ks l, u, h => ⟨by simp [TW], h.2.1, trivial, snoc_ok _ _ (tns_ok ks h.2.2.1) ⟨by simp [TW], by show 0 ≤ 10000; omega, trivial, tn_ok l h.2.2.2, trivial⟩⟩
theorem tns_ok {F : Nat} : ∀ (ks : Ks) {u : Nat}, ks.ok CW F u → ks.tns.ok TW F u
  | .nil, u, _ => trivial
  | .cons b k r, u, h => ⟨tn_ok k h.1, tns_ok r h.2⟩
end
mutual
/-- no room, no code -/
def Kd.nr : Kd → Prop
  | .un _ k => k.nr
  | .mn .room _ => False
  | .mn (.code _) _ => False
  | .mn _ ks => ks.nr
  | .to _ ks l => ks.nr ∧ l.nr
  | _ => True
def Ks.nr : Ks → Prop
  | .nil => True
  | .cons _ k r => k.nr ∧ r.nr
end
mutual
theorem tr_nr {g : Leaf} (hg : ∀ v f n, (g v f n).nr) : ∀ (k : Kd) (u : Nat), k.nr → (k.tr g u).nr
  | .int, u, _ => trivial
  | .free n, u, _ => hg u true n
  | .var n, u, _ => hg u false n
  | .un w k, u, h => tr_nr hg k _ h
  | .mn m ks, u, h => by
    cases m with
    | room => exact h.elim
    | code b => exact h.elim
    | row => exact trs_nr hg ks _ h
    | one => exact trs_nr hg ks _ h
    | not b => exact trs_nr hg ks _ h
  | .to n ks l, u, h => ⟨trs_nr hg ks _ h.1, tr_nr hg l _ h.2⟩
theorem trs_nr {g : Leaf} (hg : ∀ v f n, (g v f n).nr) : ∀ (ks : Ks) (u : Nat), ks.nr → (ks.tr g u).nr
  | .nil, u, _ => trivial
  | .cons b k r, u, h => ⟨tr_nr hg k u h.1, trs_nr hg r u h.2⟩
end
mutual
theorem ok_nr {ws : List Str} {F : Nat} (h1 : Str.ofString "room" ∉ ws) (h2 : Str.ofString "code" ∉ ws) : ∀ (k : Kd) {u : Nat}, k.ok ws F u → k.nr
  | .int, _, _ => trivial
  | .free _, _, _ => trivial
  | .var _, _, _ => trivial
  | .un w k, _, h => ok_nr h1 h2 k h.2.2
  | .mn m ks, u, h => by
    have e := h.1
    cases m with
    | room => exact h1 e
    | code b => exact h2 e
    | row => exact oks_nr h1 h2 ks h.2.2.2
    | one => exact oks_nr h1 h2 ks h.2.2.2
    | not b => exact oks_nr h1 h2 ks h.2.2.2
  | .to n ks l, _, h => ⟨oks_nr h1 h2 ks h.2.2.1, ok_nr h1 h2 l h.2.2.2⟩
theorem oks_nr {ws : List Str} {F : Nat} (h1 : Str.ofString "room" ∉ ws) (h2 : Str.ofString "code" ∉ ws) : ∀ (ks : Ks) {u : Nat}, ks.ok ws F u → ks.nr
  | .nil, _, _ => trivial
  | .cons b k r, _, h => ⟨ok_nr h1 h2 k h.1, oks_nr h1 h2 r h.2⟩
end
theorem cw_nr {F u : Nat} {k : Kd} (h : k.ok CW F u) : k.nr := ok_nr (by simp [CW]) (by simp [CW]) k h
theorem tw_nr {F u : Nat} {k : Kd} (h : k.ok TW F u) : k.nr := ok_nr (by simp [TW]) (by simp [TW]) k h
/-- shut, then opened with the same free ones: as before -/
theorem shut_open {F : Nat} (k : Kd) (o : List Nat) (hw : k.wk F 0) : (k.tr (shutG o) 0).tr (putG (o.map Kd.free)) 0 = k := by
  rw [tr_tr]
  refine tr_stay (F := F) k 0 hw fun v _ => ⟨fun n hn => ?_, fun n hn => ?_⟩
  · by_cases hm : n ∈ o
    · have hi : o.idxOf n < o.length := List.idxOf_lt_length_iff.mpr hm
      have h1 : ¬ v + o.idxOf n < v := by omega
      have h2 : v + o.idxOf n - v = o.idxOf n := by omega
      have h3 : (o.map Kd.free)[o.idxOf n]? = some (.free n) := by
        rw [List.getElem?_map, List.getElem?_eq_getElem hi, List.getElem_idxOf]; rfl
      simp [shutG, hm, Kd.tr, putG, h1, h2, h3]
    · simp [shutG, hm, Kd.tr, putG]
  · simp [shutG, hn, Kd.tr, putG]
/-! unlike kinds stay unlike -/
mutual
theorem tn_inj {F F' : Nat} : ∀ (a b : Kd) {u u' : Nat}, a.ok CW F u → b.ok CW F' u' → a.tn.d = b.tn.d → a.d = b.d
  | .int, b, u, u', _, hb, e => by
    cases b with
    | un w k => cases w <;> simp [Kd.tn, Kd.d] at e
    | mn m ks => cases m <;> simp [Kd.tn, Kd.d] at e
    | _ => first | rfl | simp [Kd.tn, Kd.d] at e
  | .free n, b, u, u', _, hb, e => by
    cases b with
    | un w k => cases w <;> simp [Kd.tn, Kd.d] at e
    | mn m ks => cases m <;> simp [Kd.tn, Kd.d] at e
    | free m => exact e
    | _ => simp [Kd.tn, Kd.d] at e
  | .var n, b, u, u', _, hb, e => by
    cases b with
    | un w k => cases w <;> simp [Kd.tn, Kd.d] at e
    | mn m ks => cases m <;> simp [Kd.tn, Kd.d] at e
    | var m => exact e
    | _ => simp [Kd.tn, Kd.d] at e
  | .un w k, b, u, u', ha, hb, e => by
    cases b with
    | un w' k' =>
      have ih := tn_inj k k' ha.2.2 hb.2.2
      cases w <;> cases w' <;> simp [Kd.tn, Kd.d] at e ⊢ <;> exact ih e
    | mn m ks => cases w <;> cases m <;> simp [Kd.tn, Kd.d] at e
    | _ => cases w <;> simp [Kd.tn, Kd.d] at e
  | .mn m ks, b, u, u', ha, hb, e => by
    have h1 := ha.1
    cases b with
    | un w k => cases w <;> cases m <;> simp [Kd.tn, Kd.d] at e
    | mn m' ks' =>
      have h2 := hb.1
      have ih := tns_inj ks ks' ha.2.2.2 hb.2.2.2
      cases m <;> first | (simp [CW] at h1; done) | skip
      all_goals cases m' <;> first | (simp [CW] at h2; done) | skip
      all_goals simp [Kd.tn, Kd.d] at e ⊢
      all_goals exact ih e
    | to n ks' l => cases m <;> first | (simp [CW] at h1; done) | (simp [Kd.tn, Kd.d] at e)
    | _ => cases m <;> simp [Kd.tn, Kd.d] at e
  | .to n ks l, b, u, u', ha, hb, e => by
    cases b with
    | un w k => cases w <;> simp [Kd.tn, Kd.d] at e
    | mn m ks => have h2 := hb.1; cases m <;> first | (simp [CW] at h2; done) | (simp [Kd.tn, Kd.d] at e)
    | to n' ks' l' =>
      have ih := tns_inj ks ks' ha.2.2.1 hb.2.2.1
      have il := tn_inj l l' ha.2.2.2 hb.2.2.2
      simp only [Kd.tn, Kd.d, snoc_ds] at e ⊢
      have e := (D.tup.inj e)
      simp only [List.cons.injEq, D.int.injEq, D.tup.injEq, true_and, and_true] at e
      obtain ⟨e1, e2⟩ := e
      have e3 := List.append_inj' e2 rfl
      have e4 := e3.2
      simp only [Ks.ds, List.cons.injEq, D.tup.injEq, true_and, and_true] at e4
      rw [ih e3.1, il e4, e1]
    | _ => simp [Kd.tn, Kd.d] at e
theorem tns_inj {F F' : Nat} : ∀ (a b : Ks) {u u' : Nat}, a.ok CW F u → b.ok CW F' u' → a.tns.ds = b.tns.ds → a.ds = b.ds
  | .nil, .nil, _, _, _, _, _ => rfl
  | .nil, .cons _ _ _, _, _, _, _, e => by cases e
  | .cons _ _ _, .nil, _, _, _, _, e => by cases e
  | .cons _ k r, .cons _ k' r', u, u', ha, hb, e => by
    have e : k.tn.d :: r.tns.ds = k'.tn.d :: r'.tns.ds := e
    have e1 := tn_inj k k' ha.1 hb.1 (List.cons.inj e).1
    have e2 := tns_inj r r' ha.2 hb.2 (List.cons.inj e).2
    show k.d :: r.ds = k'.d :: r'.ds
    rw [e1, e2]
end
mutual
theorem tn_fun {F F' : Nat} : ∀ (a b : Kd) {u u' : Nat}, a.ok CW F u → b.ok CW F' u' → a.d = b.d → a.tn.d = b.tn.d
  | .int, b, u, u', _, hb, e => by
    cases b with
    | un w k => cases w <;> simp [Kd.d] at e
    | mn m ks => cases m <;> simp [Kd.d] at e
    | _ => first | rfl | simp [Kd.d] at e
  | .free n, b, u, u', _, hb, e => by
    cases b with
    | un w k => cases w <;> simp [Kd.d] at e
    | mn m ks => cases m <;> simp [Kd.d] at e
    | free m => exact e
    | _ => simp [Kd.d] at e
  | .var n, b, u, u', _, hb, e => by
    cases b with
    | un w k => cases w <;> simp [Kd.d] at e
    | mn m ks => cases m <;> simp [Kd.d] at e
    | var m => exact e
    | _ => simp [Kd.d] at e
  | .un w k, b, u, u', ha, hb, e => by
    cases b with
    | un w' k' =>
      have ih := tn_fun k k' ha.2.2 hb.2.2
      cases w <;> cases w' <;> simp [Kd.tn, Kd.d] at e ⊢ <;> exact ih e
    | mn m ks => cases w <;> cases m <;> simp [Kd.d] at e
    | _ => cases w <;> simp [Kd.d] at e
  | .mn m ks, b, u, u', ha, hb, e => by
    have h1 := ha.1
    cases b with
    | un w k => cases w <;> cases m <;> simp [Kd.d] at e
    | mn m' ks' =>
      have h2 := hb.1
      have ih := tns_fun ks ks' ha.2.2.2 hb.2.2.2
      cases m <;> first | (simp [CW] at h1; done) | skip
      all_goals cases m' <;> first | (simp [CW] at h2; done) | skip
      all_goals simp [Kd.tn, Kd.d] at e ⊢
      all_goals exact ih e
    | to n ks' l => cases m <;> first | (simp [CW] at h1; done) | (simp [Kd.d] at e)
    | _ => cases m <;> simp [Kd.d] at e
  | .to n ks l, b, u, u', ha, hb, e => by
    cases b with
    | un w k => cases w <;> simp [Kd.d] at e
    | mn m ks => cases m <;> simp [Kd.d] at e
    | to n' ks' l' =>
      have ih := tns_fun ks ks' ha.2.2.1 hb.2.2.1
      have il := tn_fun l l' ha.2.2.2 hb.2.2.2
      simp only [Kd.tn, Kd.d, snoc_ds] at e ⊢
      have e := (D.tup.inj e)
      simp only [List.cons.injEq, D.int.injEq, D.tup.injEq, true_and, and_true] at e
      obtain ⟨e1, e2, e3⟩ := e
      simp only [Ks.ds, e1, ih e2, il e3]
    | _ => simp [Kd.d] at e
theorem tns_fun {F F' : Nat} : ∀ (a b : Ks) {u u' : Nat}, a.ok CW F u → b.ok CW F' u' → a.ds = b.ds → a.tns.ds = b.tns.ds
  | .nil, .nil, _, _, _, _, _ => rfl
  | .nil, .cons _ _ _, _, _, _, _, e => by cases e
  | .cons _ _ _, .nil, _, _, _, _, e => by cases e
  | .cons _ k r, .cons _ k' r', u, u', ha, hb, e => by
    have e : k.d :: r.ds = k'.d :: r'.ds := e
    have e1 := tn_fun k k' ha.1 hb.1 (List.cons.inj e).1
    have e2 := tns_fun r r' ha.2 hb.2 (List.cons.inj e).2
    show k.tn.d :: r.tns.ds = k'.tn.d :: r'.tns.ds
    rw [e1, e2]
end
/-! == of kinds without tags -/
mutual
def nb : D → Bool
  | .int _ => true
  | .str _ => true
  | .tup xs => nbs xs
  | _ => false
def nbs : List D → Bool
  | [] => true
  | x :: xs => nb x && nbs xs
end
mutual
theorem eqv_nb : ∀ a b : D, nb a = true → nb b = true → (a.eqv b = true ↔ a = b)
  | .int i, b, _, hb => by cases b <;> first | (simp [D.eqv]; done) | cases hb
  | .str i, b, _, hb => by cases b <;> first | (simp [D.eqv]; done) | cases hb
  | .tup xs, b, ha, hb => by
    cases b with
    | tup ys =>
      have := eqvs_nb xs ys ha hb
      simp only [D.eqv, D.tup.injEq]; exact this
    | int i => simp [D.eqv]
    | str i => simp [D.eqv]
    | _ => cases hb
  | .non, _, h, _ => by cases h
  | .bl _, _, h, _ => by cases h
  | .lst _, _, h, _ => by cases h
  | .ref _, _, h, _ => by cases h
  | .fz _, _, h, _ => by cases h
  | .ftup _, _, h, _ => by cases h
  | .exc _, _, h, _ => by cases h
  | .exf _ _ _, _, h, _ => by cases h
theorem eqvs_nb : ∀ a b : List D, nbs a = true → nbs b = true → (D.eqvs a b = true ↔ a = b)
  | [], [], _, _ => by simp [D.eqvs]
  | [], _ :: _, _, _ => by simp [D.eqvs]
  | _ :: _, [], _, _ => by simp [D.eqvs]
  | x :: xs, y :: ys, ha, hb => by
    simp only [nbs, Bool.and_eq_true] at ha hb
    have h1 := eqv_nb x y ha.1 hb.1
    have h2 := eqvs_nb xs ys ha.2 hb.2
    simp only [D.eqvs, Bool.and_eq_true, List.cons.injEq, h1, h2]
end
theorem nbs_app : ∀ xs ys : List D, nbs (xs ++ ys) = (nbs xs && nbs ys)
  | [], ys => by simp [nbs]
  | x :: xs, ys => by show (nb x && nbs (xs ++ ys)) = _; rw [nbs_app xs ys]; simp [nbs, Bool.and_assoc]
mutual
theorem nr_nb : ∀ k : Kd, k.nr → nb k.d = true
  | .int, _ => by simp [Kd.d, nb, nbs]
  | .free _, _ => by simp [Kd.d, nb, nbs]
  | .var _, _ => by simp [Kd.d, nb, nbs]
  | .un w k, h => by have := nr_nb k h; cases w <;> simp [Kd.d, nb, nbs, this]
  | .mn m ks, h => by
    cases m with
    | room => exact h.elim
    | code b => exact h.elim
    | row => have := nrs_nb ks h; simp [Kd.d, nb, nbs, this]
    | one => have := nrs_nb ks h; simp [Kd.d, nb, nbs, this]
    | not b => have := nrs_nb ks h; simp [Kd.d, nb, nbs, this]
  | .to n ks l, h => by have := nrs_nb ks h.1; have := nr_nb l h.2; simp [Kd.d, nb, nbs, *]
theorem nrs_nb : ∀ k : Ks, k.nr → nbs k.ds = true
  | .nil, _ => rfl
  | .cons b k r, h => by show (nb k.d && nbs r.ds) = true; rw [nr_nb k h.1, nrs_nb r h.2]; rfl
end
theorem tn_eqv {F F' u u' : Nat} {a b : Kd} (ha : a.ok CW F u) (hb : b.ok CW F' u') : a.tn.d.eqv b.tn.d = a.d.eqv b.d := by
  rw [Bool.eq_iff_iff, eqv_nb _ _ (nr_nb _ (tw_nr (tn_ok a ha))) (nr_nb _ (tw_nr (tn_ok b hb))), eqv_nb _ _ (nr_nb _ (cw_nr ha)) (nr_nb _ (cw_nr hb))]
  exact ⟨tn_inj a b ha hb, tn_fun a b ha hb⟩
/-- a good kind of core -/
structure Ck (f u dp : Nat) (k : Kd) : Prop where
  ok : k.ok CW f u
  tw : k.tw
  dep : k.dep ≤ dp
structure Cks (f u dp : Nat) (k : Ks) : Prop where
  ok : k.ok CW f u
  tw : k.tw
  dep : k.dep ≤ dp
theorem of_ck {f u dp : Nat} : ∀ {ks : List Kd}, (∀ k ∈ ks, Ck f u dp k) → Cks f u dp (Ks.of ks)
  | [], _ => ⟨trivial, trivial, Nat.zero_le _⟩
  | k :: r, h => by
    have h1 := h k List.mem_cons_self
    have h2 := of_ck fun c hc => h c (List.mem_cons_of_mem _ hc)
    exact ⟨⟨h1.ok, h2.ok⟩, ⟨h1.tw, h2.tw⟩, Nat.max_le.mpr ⟨h1.dep, h2.dep⟩⟩
theorem Ck.sm {f u dp : Nat} {k : Kd} (c : Ck f u dp k) : k.sm := tw_sm k c.tw
theorem Ck.mono {f u dp f' u' dp' : Nat} {k : Kd} (c : Ck f u dp k) (h1 : f ≤ f') (h2 : u ≤ u') (h3 : dp ≤ dp') : Ck f' u' dp' k := ⟨ok_le k c.ok h1 h2, c.tw, Nat.le_trans c.dep h3⟩
theorem Ck.tn {f u dp : Nat} {k : Kd} (c : Ck f u dp k) : Gd TW f u (2 * dp) k.tn := ⟨tn_ok k c.ok, tw_tn k c.tw, Nat.le_trans (tn_dep k) (by have := c.dep; omega)⟩
end Kn
end

section
/-! KdU: good kinds of core, opened and filled. No program in sight. -/
set_option maxRecDepth 100000
namespace Kn
open PySem PV
mutual
theorem tr_tw {g : Leaf} (h : ∀ v f n, (g v f n).tw) : ∀ (k : Kd) (u : Nat), k.tw → (k.tr g u).tw
  | .int, u, _ => trivial
  | .free n, u, _ => h u true n
  | .var n, u, _ => h u false n
  | .un w k, u, hs => tr_tw h k (u + w.bn) hs
  | .mn m ks, u, hs => ⟨by rw [tr_len]; exact hs.1, trs_tw h ks (u + m.bn) hs.2⟩
  | .to n ks l, u, hs => ⟨by rw [tr_len]; exact hs.1, trs_tw h ks (u + n) hs.2.1, tr_tw h l (u + n) hs.2.2⟩
theorem trs_tw {g : Leaf} (h : ∀ v f n, (g v f n).tw) : ∀ (ks : Ks) (u : Nat), ks.tw → (ks.tr g u).tw
  | .nil, u, _ => trivial
  | .cons b k r, u, hs => ⟨tr_tw h k u hs.1, trs_tw h r u hs.2⟩
end
theorem putG_tw {ss : List Kd} (h : ∀ k ∈ ss, k.tw) (v : Nat) (f : Bool) (n : Nat) : (putG ss v f n).tw := by
  unfold putG
  split
  · trivial
  · split
    · trivial
    · cases e : ss[n - v]? with
      | none => trivial
      | some k => exact h k (List.mem_of_getElem? e)
theorem Ck.opn {F dp N : Nat} {ss : List Kd} {k : Kd} (c : Ck F ss.length dp k) (h : ∀ s ∈ ss, Ck F 0 N s) : Ck F 0 (dp + N) (k.tr (putG ss) 0) := by
  refine ⟨?_, tr_tw (putG_tw fun s hs => (h s hs).tw) k 0 c.tw, Nat.le_trans (tr_dep (putG_dep fun s hs => (h s hs).dep) k 0) (by have := c.dep; omega)⟩
  exact tr_ok (F := F) (s := ss.length) (t := 0) k 0 (by rw [Nat.zero_add]; exact c.ok) fun v _ => putG_ok (fun s hs => (h s hs).ok) v
theorem fillG_tw {ss : List Kd} (h : ∀ k ∈ ss, k.tw) (v : Nat) (f : Bool) (n : Nat) : (fillG ss v f n).tw := by
  unfold fillG
  split
  · rw [List.getD_eq_getElem?_getD]
    cases e : ss[n]? with
    | none => trivial
    | some k => exact h k (List.mem_of_getElem? e)
  · trivial
theorem fillG_dep {ss : List Kd} {N : Nat} (h : ∀ k ∈ ss, k.dep ≤ N) (v : Nat) (f : Bool) (n : Nat) : (fillG ss v f n).dep ≤ N := by
  unfold fillG
  split
  · rw [List.getD_eq_getElem?_getD]
    cases e : ss[n]? with
    | none => exact Nat.zero_le _
    | some k => exact h k (List.mem_of_getElem? e)
  · exact Nat.zero_le _
theorem Ck.fil {F dp N : Nat} {ss : List Kd} {k : Kd} (c : Ck ss.length 0 dp k) (h : ∀ s ∈ ss, Ck F 0 N s) : Ck F 0 (dp + N) (k.tr (fillG ss) 0) := by
  refine ⟨?_, tr_tw (fillG_tw fun s hs => (h s hs).tw) k 0 c.tw, Nat.le_trans (tr_dep (fillG_dep fun s hs => (h s hs).dep) k 0) (by have := c.dep; omega)⟩
  refine tr_ok (F := ss.length) (s := 0) (t := 0) k 0 c.ok fun v _ => ⟨fun n hn => ?_, fun n hn => hn⟩
  have e : fillG ss v true n = ss[n] := by simp [fillG, hn]
  rw [e]
  exact ok_le _ (h _ (List.getElem_mem hn)).ok (Nat.le_refl _) (Nat.zero_le _)
end Kn
end

section
/-! KdC: kinds in turns, closed. No program in sight. -/
set_option maxRecDepth 100000
namespace Kn
open PySem PV
/-- one more below -/
def upG : Leaf := fun u f n => if f then .free n else if n < u then .var n else .var (n + 1)
mutual
/-- closed -/
def Kd.cl : Kd → Kd
  | .int => .int
  | .free n => .free n
  | .var n => .var n
  | .un w k => .un w k.cl
  | .mn .row ks => .mn .row ks.cls
  | .mn .one ks => .mn .one ks.cls
  | .mn .room ks => .mn .room ks.cls
  | .mn (.code n) ks => .mn (.code n) ks.cls
  | .mn (.not n) ks => .un .som (.mn .row (.cons .non (.mn (.not n) (.cons .non (.var n) (ks.cls.tr upG n))) (.cons .non (.var 0) .nil)))
  | .to n ks l => .to n ks.cls l.cl
def Ks.cls : Ks → Ks
  | .nil => .nil
  | .cons b k r => .cons b k.cl r.cls
end
@[simp] theorem cls_len : ∀ ks : Ks, ks.cls.len = ks.len
  | .nil => rfl
  | .cons _ _ r => by show r.cls.len + 1 = r.len + 1; rw [cls_len r]
abbrev off (g : Leaf) (d : Nat) : Leaf := fun v f n => g (v + d) f n
mutual
theorem tr_off (g : Leaf) (d : Nat) : ∀ (k : Kd) (u : Nat), k.tr g (u + d) = k.tr (off g d) u
  | .int, u => rfl
  | .free n, u => rfl
  | .var n, u => rfl
  | .un w k, u => by simp only [Kd.tr]; rw [Nat.add_right_comm, tr_off g d k]
  | .mn m ks, u => by simp only [Kd.tr]; rw [Nat.add_right_comm, trs_off g d ks]
  | .to n ks l, u => by simp only [Kd.tr]; rw [Nat.add_right_comm, trs_off g d ks, tr_off g d l]
theorem trs_off (g : Leaf) (d : Nat) : ∀ (ks : Ks) (u : Nat), ks.tr g (u + d) = ks.tr (off g d) u
  | .nil, u => rfl
  | .cons b k r, u => by simp only [Ks.tr]; rw [tr_off g d k, trs_off g d r]
end
theorem up_stay {F : Nat} (k : Kd) (n : Nat) (h : k.wk F 0) : k.tr upG n = k :=
  tr_stay (F := F) k n (wk_le k h (Nat.le_refl _) (Nat.zero_le _)) fun v _ => ⟨fun n _ => rfl, fun n hn => by simp [upG, hn]⟩
/-- raised, then put in: put in, then raised -/
theorem up_put {ss : List Kd} (hs : ∀ s ∈ ss, ∃ F, s.wk F 0) (ks : Ks) (n u : Nat) : (ks.tr upG n).tr (putG ss) (u + 1 + n) = (ks.tr (putG ss) (u + n)).tr upG n := by
  rw [Nat.add_comm (u + 1) n, Nat.add_comm u n, trs_off, trs_off, trs_trs, trs_trs]
  congr 1
  funext v f m
  cases f with
  | true => rfl
  | false =>
    by_cases h1 : m < v
    · have h2 : m < v + (u + 1) := by omega
      have h3 : m < v + u := by omega
      simp [upG, off, putG, Kd.tr, h1, h2, h3]
    · by_cases h2 : m < v + u
      · have h3 : m + 1 < v + (u + 1) := by omega
        simp [upG, off, putG, Kd.tr, h1, h2, h3]
      · have h3 : ¬ m + 1 < v + (u + 1) := by omega
        have h4 : m + 1 - (v + (u + 1)) = m - (v + u) := by omega
        have e1 : (upG v false m).tr (off (putG ss) (u + 1)) v = putG ss (v + (u + 1)) false (m + 1) := by simp [upG, Kd.tr, h1, off]
        rw [e1]
        show putG ss (v + (u + 1)) false (m + 1) = (putG ss (v + u) false m).tr upG v
        unfold putG
        (simp only [Bool.false_eq_true, if_false, h2, h3, h4])
        cases e : ss[m - (v + u)]? with
        | some k =>
          obtain ⟨F, hw⟩ := hs k (List.mem_of_getElem? e)
          exact (up_stay k v hw).symm
        | none =>
          have h5 := List.getElem?_eq_none_iff.mp e
          have h6 : ¬ m - ss.length < v := by omega
          have h7 : m + 1 - ss.length = m - ss.length + 1 := by omega
          simp [Kd.tr, upG, h6, h7]
theorem putG_cl (ss : List Kd) (u n : Nat) (f : Bool) : (putG ss u f n).cl = putG (ss.map Kd.cl) u f n := by
  unfold putG
  cases f with
  | true => rfl
  | false =>
    (simp only [Bool.false_eq_true, if_false])
    split
    · rfl
    · rw [List.getElem?_map, List.length_map]
      cases ss[n - u]? <;> rfl
mutual
/-- closed behind put in -/
theorem cl_put {ss : List Kd} (hs : ∀ s ∈ ss.map Kd.cl, ∃ F, s.wk F 0) : ∀ (k : Kd) (u : Nat), (k.tr (putG ss) u).cl = k.cl.tr (putG (ss.map Kd.cl)) u
  | .int, u => rfl
  | .free n, u => rfl
  | .var n, u => putG_cl ss u n false
  | .un w k, u => by simp only [Kd.tr, Kd.cl]; rw [cl_put hs k]
  | .mn .row ks, u => by simp only [Kd.tr, Kd.cl]; rw [cls_put hs ks]
  | .mn .one ks, u => by simp only [Kd.tr, Kd.cl]; rw [cls_put hs ks]
  | .mn .room ks, u => by simp only [Kd.tr, Kd.cl]; rw [cls_put hs ks]
  | .mn (.code n) ks, u => by simp only [Kd.tr, Kd.cl]; rw [cls_put hs ks]
  | .mn (.not n) ks, u => by
    have e1 : n < u + 1 + 0 + n := by omega
    have e2 : 0 < u + 1 + 0 := by omega
    simp only [Kd.tr, Ks.tr, Kd.cl, Un.bn, Mn.bn]
    rw [cls_put hs ks, ← up_put hs]
    simp [putG, e1, e2]
  | .to n ks l, u => by simp only [Kd.tr, Kd.cl]; rw [cls_put hs ks, cl_put hs l]
theorem cls_put {ss : List Kd} (hs : ∀ s ∈ ss.map Kd.cl, ∃ F, s.wk F 0) : ∀ (ks : Ks) (u : Nat), (ks.tr (putG ss) u).cls = ks.cls.tr (putG (ss.map Kd.cl)) u
  | .nil, u => rfl
  | .cons b k r, u => by simp only [Ks.tr, Ks.cls]; rw [cl_put hs k, cls_put hs r]
end
theorem cl_hdV {k : Kd} (h : hdV k.d = false) : hdV k.cl.d = false := by
  cases k with
  | int => rfl
  | free n => simp [hdV, Kd.d] at h
  | var n => simp [hdV, Kd.d] at h
  | un w k => cases w <;> simp [hdV, Kd.d, Kd.cl]
  | mn m ks => cases m <;> simp [hdV, Kd.d, Kd.cl]
  | to n ks l => simp [hdV, Kd.d, Kd.cl]
theorem up_ok (F s v : Nat) : (∀ n, n < F → (upG v true n).ok TW F (v + (s + 1))) ∧ ∀ n, n < v + s → (upG v false n).ok TW F (v + (s + 1)) := by
  refine ⟨fun n hn => hn, fun n hn => ?_⟩
  unfold upG
  (simp only [Bool.false_eq_true, if_false])
  split
  · show n < v + (s + 1); omega
  · show n + 1 < v + (s + 1); omega
mutual
theorem cl_ok {F : Nat} : ∀ (k : Kd) {u : Nat}, k.ok TW F u → k.cl.ok TW F u
  | .int, u, h => h
  | .free n, u, h => h
  | .var n, u, h => h
  | .un w k, u, h => ⟨h.1, fun e => cl_hdV (h.2.1 e), cl_ok k h.2.2⟩
  | .mn .row ks, u, h => ⟨h.1, h.2.1, trivial, cls_ok ks h.2.2.2⟩
  | .mn .one ks, u, h => ⟨h.1, h.2.1, by show 0 < ks.cls.len; rw [cls_len]; exact h.2.2.1, cls_ok ks h.2.2.2⟩
  | .mn .room ks, u, h => absurd h.1 (by simp [TW])
  | .mn (.code n) ks, u, h => absurd h.1 (by simp [TW])
  | .to n ks l, u, h => absurd h.1 (by simp [TW])
  | .mn (.not n) ks, u, h => by
    have ih : ks.cls.ok TW F (n + u) := by rw [Nat.add_comm]; exact cls_ok ks h.2.2.2
    have up := trs_ok (g := upG) (F' := F) (t := u + 1) ks.cls n ih fun v _ => up_ok F u v
    rw [Nat.add_comm] at up
    exact ⟨by simp [TW], (fun e => nomatch e), by simp [TW], Nat.zero_le _, trivial, ⟨h.1, h.2.1, trivial, by show n < u + 1 + 0 + n; omega, up⟩, by show 0 < u + 1 + 0; omega, trivial⟩
theorem cls_ok {F : Nat} : ∀ (ks : Ks) {u : Nat}, ks.ok TW F u → ks.cls.ok TW F u
  | .nil, u, _ => trivial
  | .cons b k r, u, h => ⟨cl_ok k h.1, cls_ok r h.2⟩
end
theorem up_sm (v : Nat) (f : Bool) (n : Nat) : (upG v f n).sm := by
  unfold upG; split
  · trivial
  · split <;> trivial
theorem up_dep (v : Nat) (f : Bool) (n : Nat) : (upG v f n).dep ≤ 0 := by
  unfold upG; split
  · exact Nat.le_refl 0
  · split <;> exact Nat.le_refl 0
mutual
theorem tw_cl : ∀ k : Kd, k.tw → k.cl.sm
  | .int, _ => trivial
  | .free _, _ => trivial
  | .var _, _ => trivial
  | .un w k, h => tw_cl k h
  | .mn .row ks, h => ⟨by rw [cls_len]; exact Nat.le_trans h.1 (by omega), tws_cl ks h.2⟩
  | .mn .one ks, h => ⟨by rw [cls_len]; exact Nat.le_trans h.1 (by omega), tws_cl ks h.2⟩
  | .mn .room ks, h => ⟨by rw [cls_len]; exact Nat.le_trans h.1 (by omega), tws_cl ks h.2⟩
  | .mn (.code n) ks, h => ⟨by rw [cls_len]; exact Nat.le_trans h.1 (by omega), tws_cl ks h.2⟩
  | .mn (.not n) ks, h => ⟨by show 2 ≤ 1000; omega, ⟨by show (ks.cls.tr upG n).len + 1 ≤ 1000; rw [tr_len, cls_len]; have := h.1; omega, trivial, trs_sm up_sm ks.cls n (tws_cl ks h.2)⟩, trivial, trivial⟩
  | .to n ks l, h => ⟨by rw [cls_len]; exact Nat.le_trans h.1 (by omega), tws_cl ks h.2.1, tw_cl l h.2.2⟩
theorem tws_cl : ∀ k : Ks, k.tw → k.cls.sm
  | .nil, _ => trivial
  | .cons b k r, h => ⟨tw_cl k h.1, tws_cl r h.2⟩
end
mutual
theorem cl_dep : ∀ k : Kd, k.cl.dep ≤ 3 * k.dep
  | .int => Nat.zero_le _
  | .free _ => Nat.zero_le _
  | .var _ => Nat.zero_le _
  | .un w k => by have := cl_dep k; simp only [Kd.cl, Kd.dep]; omega
  | .mn .row ks => by have := cls_dep ks; simp only [Kd.cl, Kd.dep]; omega
  | .mn .one ks => by have := cls_dep ks; simp only [Kd.cl, Kd.dep]; omega
  | .mn .room ks => by have := cls_dep ks; simp only [Kd.cl, Kd.dep]; omega
  | .mn (.code n) ks => by have := cls_dep ks; simp only [Kd.cl, Kd.dep]; omega
  | .mn (.not n) ks => by
    have := cls_dep ks
    have := trs_dep up_dep ks.cls n
    simp only [Kd.cl, Kd.dep, Ks.dep]; omega
  | .to n ks l => by have := cls_dep ks; have := cl_dep l; simp only [Kd.cl, Kd.dep]; omega
theorem cls_dep : ∀ k : Ks, k.cls.dep ≤ 3 * k.dep
  | .nil => Nat.zero_le _
  | .cons b k r => by have := cl_dep k; have := cls_dep r; simp only [Ks.cls, Ks.dep]; omega
end
/-! ### the depth as data -/
mutual
def Kd.dw : Kd → Nat
  | .un _ k => k.dw + 1
  | .mn _ ks => ks.dw + 2
  | .to _ ks l => max (ks.dw + 2) (l.dw + 1)
  | _ => 1
def Ks.dw : Ks → Nat
  | .nil => 0
  | .cons _ k r => max k.dw r.dw
end
mutual
/-- .. of the closed one -/
def Kd.cw : Kd → Nat
  | .un _ k => k.cw + 1
  | .mn (.not _) ks => max ks.cw 1 + 5
  | .mn _ ks => ks.cw + 2
  | .to _ ks l => max (ks.cw + 2) (l.cw + 1)
  | _ => 1
def Ks.cw : Ks → Nat
  | .nil => 0
  | .cons _ k r => max k.cw r.cw
end
mutual
theorem dw_eq : ∀ k : Kd, k.nr → k.d.dep = k.dw
  | .int, _ => by simp [Kd.d, D.dep, D.deps, Kd.dw]
  | .free v, _ => by simp [Kd.d, D.dep, D.deps, Kd.dw]
  | .var v, _ => by simp [Kd.d, D.dep, D.deps, Kd.dw]
  | .un w k, h => by
    have ih := dw_eq k h
    cases w <;> simp [Kd.d, D.dep, D.deps, Kd.dw, ih]
  | .mn m ks, h => by
    cases m with
    | row => have ih := dws_eq ks h; simp [Kd.d, D.dep, D.deps, Kd.dw, ih]
    | one => have ih := dws_eq ks h; simp [Kd.d, D.dep, D.deps, Kd.dw, ih]
    | not b => have ih := dws_eq ks h; simp [Kd.d, D.dep, D.deps, Kd.dw, ih]
    | room => exact h.elim
    | code b => exact h.elim
  | .to b ks l, h => by
    have ih := dws_eq ks h.1
    have il := dw_eq l h.2
    simp [Kd.d, D.dep, D.deps, Kd.dw, ih, il]; omega
theorem dws_eq : ∀ ks : Ks, ks.nr → D.deps ks.ds = ks.dw
  | .nil, _ => by simp [Ks.ds, D.deps, Ks.dw]
  | .cons b k r, h => by simp [Ks.ds, D.deps, Ks.dw, dw_eq k h.1, dws_eq r h.2]
end
mutual
theorem dep_dw : ∀ k : Kd, k.dep ≤ k.dw
  | .int => by simp [Kd.dep]
  | .free _ => by simp [Kd.dep]
  | .var _ => by simp [Kd.dep]
  | .un w k => by have := dep_dw k; simp only [Kd.dep, Kd.dw]; omega
  | .mn m ks => by have := deps_dw ks; simp only [Kd.dep, Kd.dw]; omega
  | .to n ks l => by have := deps_dw ks; have := dep_dw l; simp only [Kd.dep, Kd.dw]; omega
theorem deps_dw : ∀ k : Ks, k.dep ≤ k.dw
  | .nil => Nat.le_refl _
  | .cons b k r => by have := dep_dw k; have := deps_dw r; simp only [Ks.dep, Ks.dw]; omega
end
mutual
theorem tr_dw {g : Leaf} {N : Nat} (h : ∀ v f n, (g v f n).dw ≤ N + 1) : ∀ (k : Kd) (u : Nat), (k.tr g u).dw ≤ k.dw + N
  | .int, u => by simp [Kd.tr, Kd.dw]
  | .free n, u => by have := h u true n; simp only [Kd.tr, Kd.dw]; omega
  | .var n, u => by have := h u false n; simp only [Kd.tr, Kd.dw]; omega
  | .un w k, u => by have := tr_dw h k (u + w.bn); simp only [Kd.tr, Kd.dw]; omega
  | .mn m ks, u => by have := trs_dw h ks (u + m.bn); simp only [Kd.tr, Kd.dw]; omega
  | .to n ks l, u => by have := trs_dw h ks (u + n); have := tr_dw h l (u + n); simp only [Kd.tr, Kd.dw]; omega
theorem trs_dw {g : Leaf} {N : Nat} (h : ∀ v f n, (g v f n).dw ≤ N + 1) : ∀ (ks : Ks) (u : Nat), (ks.tr g u).dw ≤ ks.dw + N
  | .nil, u => Nat.zero_le _
  | .cons b k r, u => by have := tr_dw h k u; have := trs_dw h r u; simp only [Ks.tr, Ks.dw]; omega
end
theorem up_dw (v : Nat) (f : Bool) (n : Nat) : (upG v f n).dw ≤ 0 + 1 := by
  unfold upG; split
  · exact Nat.le_refl 1
  · split <;> exact Nat.le_refl 1
mutual
theorem cl_dw : ∀ k : Kd, k.cl.dw ≤ k.cw
  | .int => Nat.le_refl _
  | .free _ => Nat.le_refl _
  | .var _ => Nat.le_refl _
  | .un w k => by have := cl_dw k; simp only [Kd.cl, Kd.dw, Kd.cw]; omega
  | .mn .row ks => by have := cls_dw ks; simp only [Kd.cl, Kd.dw, Kd.cw]; omega
  | .mn .one ks => by have := cls_dw ks; simp only [Kd.cl, Kd.dw, Kd.cw]; omega
  | .mn .room ks => by have := cls_dw ks; simp only [Kd.cl, Kd.dw, Kd.cw]; omega
  | .mn (.code n) ks => by have := cls_dw ks; simp only [Kd.cl, Kd.dw, Kd.cw]; omega
  | .mn (.not n) ks => by
    have := cls_dw ks
    have := trs_dw up_dw ks.cls n
    simp only [Kd.cl, Kd.dw, Ks.dw, Kd.cw]; omega
  | .to n ks l => by have := cls_dw ks; have := cl_dw l; simp only [Kd.cl, Kd.dw, Kd.cw]; omega
theorem cls_dw : ∀ k : Ks, k.cls.dw ≤ k.cw
  | .nil => Nat.le_refl _
  | .cons b k r => by have := cl_dw k; have := cls_dw r; simp only [Ks.cls, Ks.dw, Ks.cw]; omega
end
/-! ### unlike stays unlike -/
mutual
/-- no tags -/
def Kd.nt : Kd → Prop
  | .un _ k => k.nt
  | .mn _ ks => ks.nt
  | .to _ ks l => ks.nt ∧ l.nt
  | _ => True
def Ks.nt : Ks → Prop
  | .nil => True
  | .cons b k r => b = .non ∧ k.nt ∧ r.nt
end
mutual
theorem d_inj {F F' : Nat} : ∀ (a b : Kd) {u u' : Nat}, a.ok TW F u → b.ok TW F' u' → a.nt → b.nt → a.d = b.d → a = b
  | .int, b, u, u', _, hb, _, _, e => by
    cases b with
    | un w k => cases w <;> simp [Kd.d] at e
    | mn m ks => cases m <;> simp [Kd.d] at e
    | _ => first | rfl | simp [Kd.d] at e
  | .free n, b, u, u', _, hb, _, _, e => by
    cases b with
    | un w k => cases w <;> simp [Kd.d] at e
    | mn m ks => cases m <;> simp [Kd.d] at e
    | free m => simp [Kd.d] at e; rw [show n = m by omega]
    | _ => simp [Kd.d] at e
  | .var n, b, u, u', _, hb, _, _, e => by
    cases b with
    | un w k => cases w <;> simp [Kd.d] at e
    | mn m ks => cases m <;> simp [Kd.d] at e
    | var m => simp [Kd.d] at e; rw [show n = m by omega]
    | _ => simp [Kd.d] at e
  | .un w k, b, u, u', ha, hb, na, nb, e => by
    cases b with
    | un w' k' =>
      have ih := d_inj k k' ha.2.2 hb.2.2 na nb
      cases w <;> cases w' <;> simp [Kd.d] at e ⊢ <;> exact ih e
    | mn m ks => cases w <;> cases m <;> simp [Kd.d] at e
    | _ => cases w <;> simp [Kd.d] at e
  | .mn m ks, b, u, u', ha, hb, na, nb, e => by
    have h1 := ha.1
    cases b with
    | un w k => cases w <;> cases m <;> simp [Kd.d] at e
    | mn m' ks' =>
      have h2 := hb.1
      have ih := ds_inj ks ks' ha.2.2.2 hb.2.2.2 na nb
      cases m <;> first | (simp [TW] at h1; done) | skip
      all_goals cases m' <;> first | (simp [TW] at h2; done) | skip
      all_goals simp [Kd.d] at e ⊢
      all_goals first | exact ih e | exact ⟨by omega, ih e.2⟩
    | to n ks' l => have h2 := hb.1; simp [TW] at h2
    | _ => cases m <;> simp [Kd.d] at e
  | .to n ks l, b, u, u', ha, hb, _, _, e => by have h1 := ha.1; simp [TW] at h1
theorem ds_inj {F F' : Nat} : ∀ (a b : Ks) {u u' : Nat}, a.ok TW F u → b.ok TW F' u' → a.nt → b.nt → a.ds = b.ds → a = b
  | .nil, .nil, _, _, _, _, _, _, _ => rfl
  | .nil, .cons _ _ _, _, _, _, _, _, _, e => by cases e
  | .cons _ _ _, .nil, _, _, _, _, _, _, e => by cases e
  | .cons x k r, .cons y k' r', u, u', ha, hb, na, nb, e => by
    have e : k.d :: r.ds = k'.d :: r'.ds := e
    have e1 := d_inj k k' ha.1 hb.1 na.2.1 nb.2.1 (List.cons.inj e).1
    have e2 := ds_inj r r' ha.2 hb.2 na.2.2 nb.2.2 (List.cons.inj e).2
    rw [e1, e2, na.1, nb.1]
end
theorem var_up (m u : Nat) : (Kd.var m).tr upG u = .var (if m < u then m else m + 1) := by simp only [Kd.tr, upG]; simp; split <;> rfl
mutual
theorem up_inj : ∀ (a b : Kd) (u : Nat), a.tr upG u = b.tr upG u → a = b
  | .int, b, u, e => by
    cases b with
    | var m => rw [show (Kd.var m).tr upG u = .var (if m < u then m else m + 1) from var_up m u] at e; simp [Kd.tr, upG] at e
    | _ => first | rfl | (simp [Kd.tr, upG] at e; done)
  | .free n, b, u, e => by
    cases b with
    | var m => rw [show (Kd.var m).tr upG u = .var (if m < u then m else m + 1) from var_up m u] at e; simp [Kd.tr, upG] at e
    | free m => simpa [Kd.tr, upG] using e
    | _ => simp [Kd.tr, upG] at e
  | .var n, b, u, e => by
    have hv : ∀ n, (Kd.var n).tr upG u = .var (if n < u then n else n + 1) := fun n => by simp only [Kd.tr, upG]; simp; split <;> rfl
    rw [hv] at e
    cases b with
    | var m =>
      rw [hv] at e
      have e := Kd.var.inj e
      congr 1
      split at e <;> split at e <;> omega
    | _ => simp [Kd.tr, upG] at e
  | .un w k, b, u, e => by
    cases b with
    | un w' k' =>
      have e : Kd.un w (k.tr upG (u + w.bn)) = .un w' (k'.tr upG (u + w'.bn)) := e
      injection e with e1 e2
      subst e1
      rw [up_inj k k' _ e2]
    | var m => rw [show (Kd.var m).tr upG u = .var (if m < u then m else m + 1) from var_up m u] at e; simp [Kd.tr, upG] at e
    | _ => simp [Kd.tr, upG] at e
  | .mn w k, b, u, e => by
    cases b with
    | mn w' k' =>
      have e : Kd.mn w (k.tr upG (u + w.bn)) = .mn w' (k'.tr upG (u + w'.bn)) := e
      injection e with e1 e2
      subst e1
      rw [ups_inj k k' _ e2]
    | var m => rw [show (Kd.var m).tr upG u = .var (if m < u then m else m + 1) from var_up m u] at e; simp [Kd.tr, upG] at e
    | _ => simp [Kd.tr, upG] at e
  | .to n k l, b, u, e => by
    cases b with
    | to n' k' l' =>
      have e : Kd.to n (k.tr upG (u + n)) (l.tr upG (u + n)) = .to n' (k'.tr upG (u + n')) (l'.tr upG (u + n')) := e
      injection e with e1 e2 e3
      subst e1
      rw [ups_inj k k' _ e2, up_inj l l' _ e3]
    | var m => rw [show (Kd.var m).tr upG u = .var (if m < u then m else m + 1) from var_up m u] at e; simp [Kd.tr, upG] at e
    | _ => simp [Kd.tr, upG] at e
theorem ups_inj : ∀ (a b : Ks) (u : Nat), a.tr upG u = b.tr upG u → a = b
  | .nil, .nil, _, _ => rfl
  | .nil, .cons _ _ _, _, e => by cases e
  | .cons _ _ _, .nil, _, e => by cases e
  | .cons x k r, .cons y k' r', u, e => by
    have e : Ks.cons x (k.tr upG u) (r.tr upG u) = .cons y (k'.tr upG u) (r'.tr upG u) := e
    injection e with e1 e2 e3
    rw [e1, up_inj k k' u e2, ups_inj r r' u e3]
end
theorem cl_not (x : Kd) (n : Nat) (ks : Ks) : x.cl ≠ .mn (.not n) ks := by
  intro e
  cases x with
  | mn m k => cases m <;> simp [Kd.cl] at e
  | _ => simp [Kd.cl] at e
theorem cl_alone (w : Un) (k : Kd) (n : Nat) (ks : Ks) : (Kd.un w k).cl ≠ (Kd.mn (.not n) ks).cl := by
  intro e
  have e : Kd.un w k.cl = .un .som (.mn .row (.cons .non (.mn (.not n) (.cons .non (.var n) (ks.cls.tr upG n))) (.cons .non (.var 0) .nil))) := e
  injection e with _ e
  cases k with
  | mn m k =>
    cases m with
    | row =>
      (simp only [Kd.cl] at e)
      injection e with e1 e2
      cases k with
      | nil => cases e2
      | cons b x r =>
        have e2 : Ks.cons b x.cl r.cls = _ := e2
        injection e2 with _ e3 _
        exact cl_not x _ _ e3
    | _ => simp [Kd.cl] at e
  | _ => simp [Kd.cl] at e
mutual
theorem cl_inj : ∀ a b : Kd, a.cl = b.cl → a = b
  | .int, b, e => by
    cases b with
    | mn m k => cases m <;> simp [Kd.cl] at e
    | _ => first | rfl | simp [Kd.cl] at e
  | .free n, b, e => by
    cases b with
    | mn m k => cases m <;> simp [Kd.cl] at e
    | free m => exact e
    | _ => simp [Kd.cl] at e
  | .var n, b, e => by
    cases b with
    | mn m k => cases m <;> simp [Kd.cl] at e
    | var m => exact e
    | _ => simp [Kd.cl] at e
  | .un w k, b, e => by
    cases b with
    | un w' k' =>
      have e : Kd.un w k.cl = .un w' k'.cl := e
      injection e with e1 e2
      rw [e1, cl_inj k k' e2]
    | mn m ks =>
      cases m with
      | not n => exact (cl_alone _ _ _ _ e).elim
      | _ => simp [Kd.cl] at e
    | _ => simp [Kd.cl] at e
  | .mn m ks, b, e => by
    cases b with
    | un w k =>
      cases m with
      | not n => exact (cl_alone _ _ _ _ e.symm).elim
      | _ => simp [Kd.cl] at e
    | mn m' ks' =>
      cases m <;> cases m' <;> simp [Kd.cl] at e
      all_goals first | (rw [clss_inj ks ks' e]; done) | (rw [e.1, clss_inj ks ks' e.2]; done) | skip
      · obtain ⟨e1, e2⟩ := e
        subst e1
        rw [clss_inj ks ks' (ups_inj _ _ _ e2)]
    | _ => cases m <;> simp [Kd.cl] at e
  | .to n ks l, b, e => by
    cases b with
    | to n' ks' l' =>
      have e : Kd.to n ks.cls l.cl = .to n' ks'.cls l'.cl := e
      injection e with e1 e2 e3
      rw [e1, clss_inj ks ks' e2, cl_inj l l' e3]
    | mn m k => cases m <;> simp [Kd.cl] at e
    | _ => simp [Kd.cl] at e
theorem clss_inj : ∀ a b : Ks, a.cls = b.cls → a = b
  | .nil, .nil, _ => rfl
  | .nil, .cons _ _ _, e => by cases e
  | .cons _ _ _, .nil, e => by cases e
  | .cons x k r, .cons y k' r', e => by
    have e : Ks.cons x k.cl r.cls = .cons y k'.cl r'.cls := e
    injection e with e1 e2 e3
    rw [e1, cl_inj k k' e2, clss_inj r r' e3]
end
mutual
theorem tr_nt {g : Leaf} (h : ∀ v f n, (g v f n).nt) : ∀ (k : Kd) (u : Nat), k.nt → (k.tr g u).nt
  | .int, u, _ => trivial
  | .free n, u, _ => h u true n
  | .var n, u, _ => h u false n
  | .un w k, u, hs => tr_nt h k (u + w.bn) hs
  | .mn m ks, u, hs => trs_nt h ks (u + m.bn) hs
  | .to n ks l, u, hs => ⟨trs_nt h ks (u + n) hs.1, tr_nt h l (u + n) hs.2⟩
theorem trs_nt {g : Leaf} (h : ∀ v f n, (g v f n).nt) : ∀ (ks : Ks) (u : Nat), ks.nt → (ks.tr g u).nt
  | .nil, u, _ => trivial
  | .cons b k r, u, hs => ⟨hs.1, tr_nt h k u hs.2.1, trs_nt h r u hs.2.2⟩
end
theorem up_nt (v : Nat) (f : Bool) (n : Nat) : (upG v f n).nt := by
  unfold upG; split
  · trivial
  · split <;> trivial
mutual
theorem cl_nt : ∀ k : Kd, k.nt → k.cl.nt
  | .int, _ => trivial
  | .free _, _ => trivial
  | .var _, _ => trivial
  | .un w k, h => cl_nt k h
  | .mn .row ks, h => cls_nt ks h
  | .mn .one ks, h => cls_nt ks h
  | .mn .room ks, h => cls_nt ks h
  | .mn (.code n) ks, h => cls_nt ks h
  | .mn (.not n) ks, h => ⟨rfl, ⟨rfl, trivial, trs_nt up_nt ks.cls n (cls_nt ks h)⟩, rfl, trivial, trivial⟩
  | .to n ks l, h => ⟨cls_nt ks h.1, cl_nt l h.2⟩
theorem cls_nt : ∀ k : Ks, k.nt → k.cls.nt
  | .nil, _ => trivial
  | .cons b k r, h => ⟨h.1, cl_nt k h.2.1, cls_nt r h.2.2⟩
end
/-- == of closed ones -/
theorem cl_eqv {F F' u u' : Nat} {a b : Kd} (ha : a.ok TW F u) (hb : b.ok TW F' u') (na : a.nt) (nb : b.nt) : a.cl.d.eqv b.cl.d = a.d.eqv b.d := by
  rw [Bool.eq_iff_iff, eqv_nb _ _ (nr_nb _ (tw_nr (cl_ok a ha))) (nr_nb _ (tw_nr (cl_ok b hb))), eqv_nb _ _ (nr_nb _ (tw_nr ha)) (nr_nb _ (tw_nr hb))]
  constructor
  · intro e
    rw [cl_inj a b (d_inj _ _ (cl_ok a ha) (cl_ok b hb) (cl_nt a na) (cl_nt b nb) e)]
  · intro e
    rw [d_inj a b ha hb na nb e]
end Kn
end

section
set_option maxRecDepth 100000
/-! PvW: loops run by the evaluator; numbers; a list of two numbers that draws. -/
namespace PW
open PySem PV
section
variable {turn : D → Hh → R (Option D)} {h : Hh}
theorem lcF (g : D → Option D) : ∀ {xs : List D} {acc : List D}, (∀ x ∈ xs, turn x h = .ok (g x) h) → lcLoop (fun _ => true) turn xs acc h = .ok (.lst (acc ++ xs.filterMap g)) h
  | [], acc, _ => by unfold lcLoop; simp
  | x :: xs, acc, p => by
    unfold lcLoop
    rw [if_pos rfl, p x List.mem_cons_self]
    have ih := fun acc => lcF g (xs := xs) (acc := acc) fun y hy => p y (List.mem_cons_of_mem _ hy)
    cases e : g x with
    | none => dsimp only; rw [ih, List.filterMap_cons_none e]
    | some y => dsimp only; rw [ih, List.filterMap_cons_some e]; simp
/-- items that are pictures -/
theorem lcFm {γ : Type} (f : γ → D) (g : γ → Option D) {zs : List γ} {acc : List D} (p : ∀ z ∈ zs, turn (f z) h = .ok (g z) h) : lcLoop (fun _ => true) turn (zs.map f) acc h = .ok (.lst (acc ++ zs.filterMap g)) h := by
  induction zs generalizing acc with
  | nil => unfold lcLoop; simp
  | cons z zs ih =>
    rw [List.map_cons]
    unfold lcLoop
    rw [if_pos rfl, p z List.mem_cons_self]
    have ih := fun acc => ih (acc := acc) fun y hy => p y (List.mem_cons_of_mem _ hy)
    cases e : g z with
    | none => dsimp only; rw [ih, List.filterMap_cons_none e]
    | some y => dsimp only; rw [ih, List.filterMap_cons_some e]; simp
theorem lcMm {γ : Type} (f : γ → D) (g : γ → D) {zs : List γ} {acc : List D} (p : ∀ z ∈ zs, turn (f z) h = .ok (some (g z)) h) : lcLoop (fun _ => true) turn (zs.map f) acc h = .ok (.lst (acc ++ zs.map g)) h := by
  rw [lcFm f (fun z => some (g z)) p]
  simp
/-- over 0 .. n-1 -/
theorem rngD_nat (n : Nat) : rngD 0 (n : Int) = (List.range n).map fun k : Nat => D.int (k : Int) := by
  unfold rngD
  have : ((n : Int) - 0).toNat = n := by omega
  rw [this]
  exact List.map_congr_left fun k _ => by rw [Int.zero_add]
/-- turns that change the heap -/
theorem lcS {γ : Type} (Inv : Hh → Prop) (f : γ → D) (P : γ → Prop) : ∀ {xs acc : List D} {h : Hh}, Inv h → (∀ x ∈ xs, ∀ h, Inv h → ∃ z h', turn x h = .ok (some (f z)) h' ∧ P z ∧ Inv h') →
    ∃ (zs : List γ) (h' : Hh), lcLoop (fun _ => true) turn xs acc h = .ok (.lst (acc ++ zs.map f)) h' ∧ zs.length = xs.length ∧ (∀ z ∈ zs, P z) ∧ Inv h'
  | [], acc, h, i, _ => ⟨[], h, by unfold lcLoop; simp, rfl, by simp, i⟩
  | x :: xs, acc, h, i, st => by
    obtain ⟨z, h1, e, pz, i1⟩ := st x List.mem_cons_self h i
    obtain ⟨zs, h2, e2, l2, p2, i2⟩ := lcS Inv f P (xs := xs) (acc := acc ++ [f z]) i1 fun y hy => st y (List.mem_cons_of_mem _ hy)
    refine ⟨z :: zs, h2, ?_, by simp [l2], fun y hy => (List.mem_cons.mp hy).elim (fun e => by rw [e]; exact pz) (p2 y), i2⟩
    unfold lcLoop
    rw [if_pos rfl, e]
    dsimp only
    rw [e2]
    simp
end
theorem forG {t : Tg} {body : PV.Env → Hh → RS} (I : PV.Env → Hh → Prop) : ∀ {xs : List D} {ρ : PV.Env} {h : Hh}, I ρ h → (∀ x ∈ xs, ∀ ρ h, I ρ h → ∃ ρ1 ρ2 h2, t.put x ρ = some ρ1 ∧ body ρ1 h = .nxt ρ2 h2 ∧ I ρ2 h2) → ∃ ρ' h', forLoop (fun _ => true) t body xs ρ h = .nxt ρ' h' ∧ I ρ' h'
  | [], ρ, h, hi, _ => ⟨ρ, h, by unfold forLoop; rfl, hi⟩
  | x :: xs, ρ, h, hi, st => by
    obtain ⟨ρ1, ρ2, h2, e1, e2, i2⟩ := st x List.mem_cons_self ρ h hi
    obtain ⟨ρ', h', e3, i3⟩ := forG I (xs := xs) i2 fun y hy => st y (List.mem_cons_of_mem _ hy)
    refine ⟨ρ', h', ?_, i3⟩
    unfold forLoop
    rw [if_pos rfl, e1]
    dsimp only
    rw [e2]
    exact e3
/-- .. with what is done so far -/
theorem forP {t : Tg} {body : PV.Env → Hh → RS} (I : List D → PV.Env → Hh → Prop) {all : List D} (st : ∀ d x r, d ++ x :: r = all → ∀ ρ h, I d ρ h → ∃ ρ1 ρ2 h2, t.put x ρ = some ρ1 ∧ body ρ1 h = .nxt ρ2 h2 ∧ I (d ++ [x]) ρ2 h2) :
    ∀ {xs done : List D} {ρ : PV.Env} {h : Hh}, done ++ xs = all → I done ρ h → ∃ ρ' h', forLoop (fun _ => true) t body xs ρ h = .nxt ρ' h' ∧ I all ρ' h'
  | [], done, ρ, h, e, hi => ⟨ρ, h, by unfold forLoop; rfl, by rw [List.append_nil] at e; rw [← e]; exact hi⟩
  | x :: xs, done, ρ, h, e, hi => by
    obtain ⟨ρ1, ρ2, h2, e1, e2, i2⟩ := st done x xs e ρ h hi
    obtain ⟨ρ', h', e3, i3⟩ := forP I st (xs := xs) (done := done ++ [x]) (by rw [List.append_assoc]; exact e) i2
    refine ⟨ρ', h', ?_, i3⟩
    unfold forLoop
    rw [if_pos rfl, e1]
    dsimp only
    rw [e2]
    exact e3
/-- a while whose measure falls -/
theorem whlI {c : PV.Env → Hh → R Bool} {b : PV.Env → Hh → RS} (I : Nat → PV.Env → Hh → Prop) (Done : PV.Env → Hh → Prop)
    (st : ∀ n ρ h, I n ρ h → (∃ h1, c ρ h = .ok false h1 ∧ Done ρ h1) ∨ (∃ h1, c ρ h = .ok true h1 ∧ ∃ n' ρ2 h2, n' < n ∧ b ρ h1 = .nxt ρ2 h2 ∧ I n' ρ2 h2)) : ∀ (k n : Nat) (ρ : PV.Env) (h : Hh), I n ρ h → n < k → ∃ ρ' h', whlLoop c b k ρ h = .nxt ρ' h' ∧ Done ρ' h'
  | 0, n, ρ, h, _, hk => absurd hk (Nat.not_lt_zero _)
  | k + 1, n, ρ, h, i, hk => by
    rcases st n ρ h i with ⟨h1, e, d⟩ | ⟨h1, e, n', ρ2, h2, hn, e2, i2⟩
    · refine ⟨ρ, h1, ?_, d⟩
      unfold whlLoop
      rw [e]; rfl
    · obtain ⟨ρ', h', e3, d⟩ := whlI I Done st k n' ρ2 h2 i2 (by omega)
      refine ⟨ρ', h', ?_, d⟩
      unfold whlLoop
      rw [e, R.then_ok, if_pos rfl, e2]
      exact e3
theorem wf : wfuel = 18446744073709551616 := by decide +kernel
/-! numbers -/
theorem h62 : (2 : Int) ^ 62 = 4611686018427387904 := by decide +kernel
theorem h64 : (2 : Int) ^ 64 = 18446744073709551616 := by decide +kernel
theorem rng_ok {i j : Int} (a : 0 ≤ i ∧ i ≤ 1000000000) (b : 0 ≤ j ∧ j ≤ 1000000000) : rngOk i j = true := by
  unfold rngOk
  rw [h62]
  (simp only [Bool.and_eq_true, decide_eq_true_eq])
  omega
theorem mulOk_l {i j : Int} (h0 : 0 ≤ i) (h1 : i < 18446744073709551616) : mulOk i j = true := by
  unfold mulOk
  rw [h64]
  have : decide (-18446744073709551616 < i ∧ i < 18446744073709551616) = true := decide_eq_true (by omega)
  rw [this]; simp
theorem mulOk_r {i j : Int} (h0 : 0 ≤ j) (h1 : j < 18446744073709551616) : mulOk i j = true := by
  unfold mulOk
  rw [h64]
  have : decide (-18446744073709551616 < j ∧ j < 18446744073709551616) = true := decide_eq_true (by omega)
  rw [this]; simp
theorem bin_mul {h : Hh} {i j : Int} (m : mulOk i j = true) : opBin .mul h (.int i) (.int j) = some (.int (i * j)) := by
  show (if mulOk i j then some (D.int (i * j)) else none) = _
  rw [if_pos m]
theorem bin_mod {h : Hh} {i j : Int} (m : 0 < j) : opBin .mod h (.int i) (.int j) = some (.int (i % j)) := by
  show (if 0 < j then some (D.int (i % j)) else none) = _
  rw [if_pos m]
theorem log_small {j : Int} (m : 0 < j) (m2 : j < 1073741824) : j.natAbs.log2 < 9000 := by
  have h1 : j.natAbs.log2 < 31 := (Nat.log2_lt (by omega)).mpr (by omega)
  omega
theorem bin_fdiv {h : Hh} {i j : Int} (m : 0 < j) (m2 : j < 1073741824) : opBin .fdiv h (.int i) (.int j) = some (.int (i / j)) := by
  show (if 0 < j ∧ j.natAbs.log2 < 9000 then some (D.int (i / j)) else none) = _
  rw [if_pos ⟨m, log_small m m2⟩]
theorem pow18 {h : Hh} : opBin .pow h (.int 10) (.int 18) = some (.int 1000000000000000000) := by
  show (if powOk 10 18 then some (D.int (10 ^ (18 : Int).toNat)) else none) = _
  have : powOk 10 18 = true := by decide +kernel
  rw [if_pos this]; rfl
/-! a list of two numbers among what stands -/
def Cup (pre : Hh) (a b : Int) (post : Hh) : Hh := pre ++ (.lst [.int a, .int b] :: post)
structure CupOk (a b : Int) : Prop where
  a0 : 0 ≤ a
  b0 : 0 ≤ b
  b1 : b < 2147483648
section
variable {pre post : Hh} {a b : Int} {k : Nat}
theorem cup_at (pre : Hh) (a b : Int) (post : Hh) : (Cup pre a b post)[pre.length]? = some (.lst [.int a, .int b]) := by simp [Cup]
theorem cup_len : (Cup pre a b post).length = pre.length + 1 + post.length := by simp [Cup]; omega
theorem cup_app {more : Hh} : Cup pre a b post ++ more = Cup pre a b (post ++ more) := by simp [Cup]
theorem cup_0 : opIdx (Cup pre a b post) (.ref pre.length) (.int 0) = some (.int a) := by simp only [opIdx, cup_at]; simp
theorem cup_1 : opIdx (Cup pre a b post) (.ref pre.length) (.int 1) = some (.int b) := by simp only [opIdx, cup_at]; simp
theorem sto_0 (x : Int) : stoOp (.ref pre.length) (.int 0) (.int x) (Cup pre a b post) = some (Cup pre x b post) := by
  simp only [stoOp, cup_at]
  have : L2.ixN [D.int a, D.int b].length 0 = some 0 := rfl
  rw [this]
  simp [Cup]
theorem sto_1 (x : Int) : stoOp (.ref pre.length) (.int 1) (.int x) (Cup pre a b post) = some (Cup pre a x post) := by
  simp only [stoOp, cup_at]
  have : L2.ixN [D.int a, D.int b].length 1 = some 1 := rfl
  rw [this]
  simp [Cup]
end
/-! the last object: a list that grows -/
section
variable {base : Hh} {xs : List D} {x : D}
theorem last_at (o : O) : (base ++ [o])[base.length]? = some o := by simp
theorem last_app (h : xs.length + 1 ≤ 16777216) : mthOp .append (.ref base.length) [x] (base ++ [.lst xs]) = .ok .non (base ++ [.lst (xs ++ [x])]) := by
  have e : (base ++ [O.lst xs])[base.length]? = some (.lst xs) := by simp
  show mthRef .append base.length [x] (base ++ [.lst xs]) = _
  unfold mthRef
  rw [e]
  dsimp only
  show (match mtAppend xs [x] with | some p => R.ok p.1 _ | none => R.bad) = _
  have e2 : mtAppend xs [x] = some (.non, xs ++ [x]) := by
    show (if PV.sizeOk (xs.length + 1) then some (D.non, xs ++ [x]) else none) = _
    exact if_pos (show PV.sizeOk (xs.length + 1) = true from decide_eq_true h)
  rw [e2]
  dsimp only
  congr 1
  simp
theorem last_isL : (D.ref base.length).isL (base ++ [.lst xs]) = true := by
  show (match (base ++ [O.lst xs])[base.length]? with | some (.lst _) => true | _ => false) = true
  rw [last_at]
theorem last_seq : (D.ref base.length).seq (base ++ [.lst xs]) = some xs := by
  show (match (base ++ [O.lst xs])[base.length]? with | some (.lst xs) => some xs | _ => none) = _
  rw [last_at]
theorem last_tuple : opBf .tuple (base ++ [.lst xs]) [.ref base.length] = some (.tup xs) := by
  show ((D.ref base.length).seq (base ++ [.lst xs])).map D.tup = _
  rw [last_seq]; rfl
end
/-! heaps of lists of numbers: nothing leads on -/
def HF (h : Hh) : Prop := ∀ o ∈ h, ∃ xs : List Int, o = .lst (xs.map .int)
theorem rlts_ints (n : Nat) (xs : List Int) : D.rlts n (xs.map .int) = true := by
  induction xs with
  | nil => rfl
  | cons x xs ih => show (D.rlt n (.int x) && D.rlts n _) = true; rw [ih]; rfl
theorem HF.rlt {h : Hh} (f : HF h) (n : Nat) : Hh.rlt h n = true := by
  unfold Hh.rlt
  rw [List.all_eq_true]
  intro o ho
  obtain ⟨xs, rfl⟩ := f o ho
  exact rlts_ints n xs
theorem HF.nil : HF [] := fun o ho => by cases ho
theorem HF.cup {pre : Hh} (f : HF pre) (a b : Int) : HF (Cup pre a b []) := fun o ho => by
  rcases List.mem_append.mp ho with h | h
  · exact f o h
  · simp at h; exact ⟨[a, b], h⟩
/-- data without objects -/
theorem frz_of {h : Hh} {n : Nat} : ∀ (k : Nat) (d : D), d.rlt 0 = true → D.frz h n k d = d := by
  have gen : ∀ (k : Nat), (∀ d : D, d.rlt 0 = true → D.frz h n k d = d) := by
    intro k
    induction k with
    | zero => intro d _; rfl
    | succ k ih =>
      intro d hd
      have mp : ∀ xs : List D, D.rlts 0 xs = true → xs.map (D.frz h n k) = xs := by
        intro xs
        induction xs with
        | nil => intro _; rfl
        | cons x xs ihx =>
          intro hx
          have hx : (D.rlt 0 x && D.rlts 0 xs) = true := hx
          rw [Bool.and_eq_true] at hx
          rw [List.map_cons, ih x hx.1, ihx hx.2]
      cases d with
      | tup xs => show D.tup _ = _; rw [mp xs hd]
      | lst xs => show D.lst _ = _; rw [mp xs hd]
      | ref i => exact absurd hd (by show decide (i < 0) ≠ true; simp)
      | _ => rfl
  exact gen
mutual
theorem rlt_mono {n m : Nat} (hm : n ≤ m) : ∀ d : D, d.rlt n = true → d.rlt m = true
  | .non, _ => rfl
  | .bl _, _ => rfl
  | .int _, _ => rfl
  | .str _, _ => rfl
  | .tup xs, h => rlts_mono hm xs h
  | .lst xs, h => rlts_mono hm xs h
  | .fz xs, h => rlts_mono hm xs h
  | .ftup xs, h => rlts_mono hm xs h
  | .exc _, _ => rfl
  | .exf _ _ d, h => rlt_mono hm d h
  | .ref i, h => by
    have h : decide (i < n) = true := h
    have := of_decide_eq_true h
    (exact decide_eq_true (by omega))
theorem rlts_mono {n m : Nat} (hm : n ≤ m) : ∀ xs : List D, D.rlts n xs = true → D.rlts m xs = true
  | [], _ => rfl
  | x :: xs, h => by
    have h : (D.rlt n x && D.rlts n xs) = true := h
    rw [Bool.and_eq_true] at h
    show (D.rlt m x && D.rlts m xs) = true
    rw [rlt_mono hm x h.1, rlts_mono hm xs h.2]; rfl
end
/-- a def that gives data without objects, and lets all go that it made -/
theorem finR_fz {n : Nat} {d : D} {pre more : Hh} (f : HF pre) (hn : n = pre.length) (hd : d.rlt 0 = true) : finR true n (.ret d (pre ++ more)) = .ok d pre := by
  subst hn
  show finD true pre.length d (pre ++ more) = _
  unfold finD
  have e : (pre ++ more).take pre.length = pre := by simp
  rw [if_pos rfl, frz_of 4 d hd, e, f.rlt, rlt_mono (Nat.zero_le _) d hd]
  rfl
/-! lists of numbers -/
theorem ints_map : ∀ xs : List Int, D.ints (xs.map .int) = some xs
  | [] => rfl
  | x :: xs => by show (D.ints (xs.map .int)).map _ = _; rw [ints_map xs]; rfl
theorem ints_flat (xs : List Int) : (xs.map D.int).all D.flat = true := by simp
theorem shp_lstF {xs : List D} (h : xs.all D.flat = true) : (D.lst xs).shp = true := by
  have q : ∀ x ∈ xs, x.lay = true ∧ x.dep = 0 := fun x hx => by
    have := List.all_eq_true.mp h x hx
    cases x <;> first | exact ⟨rfl, rfl⟩ | exact ⟨this, rfl⟩ | cases this
  unfold D.shp D.lay D.dep
  rw [lays_iff.mpr fun x hx => (q x hx).1, Bool.true_and]
  have : D.deps xs ≤ 0 := deps_le.mpr fun x hx => Nat.le_of_eq (q x hx).2
  (exact decide_eq_true (by omega))
theorem ne_nil {h : Hh} {i : Nat} {xs : List Int} (e : h[i]? = some (.lst (xs.map .int))) : opCmp .ne h (.ref i) (.lst []) = some (!xs.isEmpty) := by
  have r : (D.ref i).res h = .lst (xs.map .int) := by
    show (match h[i]? with | some (.lst xs) => D.lst xs | _ => .ref i) = _
    rw [e]
  have z : (D.lst (xs.map D.int)).eqv (.lst []) = xs.isEmpty := by cases xs <;> rfl
  show (opEq h (.ref i) (.lst [])).map (!·) = _
  have : opEq h (.ref i) (.lst []) = some xs.isEmpty := by
    show (if D.cok ((D.ref i).res h) (D.lst []) then some (((D.ref i).res h).eqv (.lst [])) else none) = _
    rw [r, cok_shp (shp_lstF (ints_flat xs)) rfl, z]; rfl
  rw [this]; rfl
/-! objects at their place -/
theorem mt_pop {h : Hh} {i : Nat} {xs : List D} {x : D} (e : h[i]? = some (.lst (xs ++ [x]))) : mthOp .pop (.ref i) [] h = .ok x (h.set i (.lst xs)) := by
  show mthRef .pop i [] h = _
  unfold mthRef
  rw [e]
  show (match mtPop (xs ++ [x]) [] with | some p => R.ok p.1 _ | none => R.bad) = _
  have : mtPop (xs ++ [x]) [] = some (x, xs) := by
    show (((xs ++ [x])[(xs ++ [x]).length - 1]?).map fun y => (y, (xs ++ [x]).dropLast)) = _
    simp
  rw [this]
theorem mt_app {h : Hh} {i : Nat} {xs : List D} {x : D} (e : h[i]? = some (.lst xs)) (hz : xs.length + 1 ≤ 16777216) : mthOp .append (.ref i) [x] h = .ok .non (h.set i (.lst (xs ++ [x]))) := by
  show mthRef .append i [x] h = _
  unfold mthRef
  rw [e]
  show (match mtAppend xs [x] with | some p => R.ok p.1 _ | none => R.bad) = _
  have : mtAppend xs [x] = some (.non, xs ++ [x]) := if_pos (show PV.sizeOk (xs.length + 1) = true from decide_eq_true hz)
  rw [this]
theorem is_l {h : Hh} {i : Nat} {xs : List D} (e : h[i]? = some (.lst xs)) : (D.ref i).isL h = true := by
  show (match h[i]? with | some (.lst _) => true | _ => false) = true
  rw [e]
theorem in_dct {h : Hh} {i : Nat} {kvs : List (L2.Key × D)} (e : h[i]? = some (.dct kvs)) (k : Int) : opCmp .inn h (.int k) (.ref i) = some (hasKey (.inl k) kvs) := by
  show opIn h (.int k) (.ref i) = _
  unfold opIn
  simp only [e]; rfl
theorem nin_dct {h : Hh} {i : Nat} {kvs : List (L2.Key × D)} (e : h[i]? = some (.dct kvs)) (k : Int) : opCmp .nin h (.int k) (.ref i) = some (!hasKey (.inl k) kvs) := by
  rw [nin_eq, in_dct e]; rfl
theorem sto_dct {h : Hh} {i : Nat} {kvs : List (L2.Key × D)} (e : h[i]? = some (.dct kvs)) (hz : kvs.length + 1 ≤ 16777216) (k : Int) (x : D) : stoOp (.ref i) (.int k) x h = some (h.set i (.dct (putD kvs (.inl k) x))) := by
  show (match h[i]? with | some (.lst ys) => _ | some (.dct kvs) => _ | none => none) = _
  rw [e]
  show (if PV.sizeOk (kvs.length + 1) then _ else none) = _
  exact if_pos (decide_eq_true hz)
theorem aug_l {h : Hh} {i : Nat} {xs ys : List D} (e : h[i]? = some (.lst xs)) (hz : xs.length + ys.length ≤ 16777216) : augLOp i (.lst ys) h = some (h.set i (.lst (xs ++ ys))) := by
  unfold augLOp
  rw [e]
  show (if PV.sizeOk (xs.length + ys.length) then _ else none) = _
  exact if_pos (decide_eq_true hz)
theorem sorted_ref {h : Hh} {i : Nat} {xs : List Int} (e : h[i]? = some (.lst (xs.map .int))) : opBf .sorted h [.ref i] = some (.lst ((srtI xs).map .int)) := by
  show bfSorted h [.ref i] = _
  unfold bfSorted
  simp only [e]
  unfold srtItems
  rw [ints_map]; rfl
theorem hasKey_any {k : L2.Key} : ∀ {kvs : List (L2.Key × D)}, hasKey k kvs = kvs.any fun p => decide (p.1 = k)
  | [] => by simp [hasKey, valD]
  | p :: kvs => by
    have ih := hasKey_any (k := k) (kvs := kvs)
    unfold hasKey valD at ih ⊢
    rw [List.find?_cons, List.any_cons, ← ih]
    cases e : decide (p.1 = k) <;> simp
theorem putD_new {k : L2.Key} {x : D} {kvs : List (L2.Key × D)} (h : (kvs.any fun p => decide (p.1 = k)) = false) : putD kvs k x = kvs ++ [(k, x)] := by
  unfold putD
  rw [h]; rfl
theorem valD_put {k k2 : L2.Key} {x : D} {kvs : List (L2.Key × D)} : valD (putD kvs k x) k2 = if k = k2 then some x else valD kvs k2 := by
  unfold putD
  split
  · rename_i hany
    have gen : ∀ kvs : List (L2.Key × D), valD (kvs.map fun kv => if kv.1 = k then (kv.1, x) else kv) k2 = if k = k2 ∧ (kvs.any fun kv => decide (kv.1 = k)) = true then some x else valD kvs k2 := by
      intro kvs
      induction kvs with
      | nil => simp [valD]
      | cons p kvs ih =>
        unfold valD at ih ⊢
        rw [List.map_cons, List.find?_cons, List.find?_cons, List.any_cons]
        by_cases e : p.1 = k
        · by_cases e2 : k = k2
          · subst e2; simp [e]
          · have e3 : ¬ p.1 = k2 := fun z => e2 (e.symm.trans z)
            rw [if_pos e]
            simp only [e3, decide_false]
            rw [ih]; simp [e2]
        · rw [if_neg e]
          by_cases e2 : p.1 = k2
          · have e3 : ¬ k = k2 := fun z => e (e2.trans z.symm)
            simp [e2, e3]
          · simp only [e2, decide_false, e, Bool.false_or]
            exact ih
    rw [gen]
    by_cases e : k = k2
    · rw [if_pos ⟨e, hany⟩, if_pos e]
    · rw [if_neg (fun z => e z.1), if_neg e]
  · rename_i hany
    have hk : ∀ p ∈ kvs, p.1 ≠ k := fun p hp z => hany (List.any_eq_true.mpr ⟨p, hp, decide_eq_true z⟩)
    unfold valD
    rw [List.find?_append]
    by_cases e : k = k2
    · subst e
      have : kvs.find? (fun kv => decide (kv.1 = k)) = none := List.find?_eq_none.mpr fun p hp hc => hk p hp (of_decide_eq_true hc)
      rw [this]; simp
    · rw [if_neg e]
      cases kvs.find? (fun kv => decide (kv.1 = k2)) with
      | some p => simp
      | none => simp [e]
theorem nodup_le {f : List Nat} {N : Nat} (nd : f.Nodup) (h : ∀ n ∈ f, n < N) : f.length ≤ N := by
  have p : f.Perm ((List.range N).filter fun n => decide (n ∈ f)) := (List.perm_ext_iff_of_nodup nd (List.nodup_range.filter _)).mpr fun n => by
    rw [List.mem_filter, List.mem_range]
    constructor
    · intro hn; exact ⟨h n hn, decide_eq_true hn⟩
    · intro hn; exact of_decide_eq_true hn.2
  rw [p.length_eq]
  have := List.length_filter_le (fun n => decide (n ∈ f)) (List.range N)
  rwa [List.length_range] at this
/-! dict comprehensions -/
theorem dcMm {γ : Type} {turn : D → Hh → R (Option (L2.Key × D))} {h : Hh} (f : γ → D) (g : γ → L2.Key × D) {zs : List γ} {acc : List (L2.Key × D)} (p : ∀ z ∈ zs, turn (f z) h = .ok (some (g z)) h) : dcLoop (fun _ => true) turn (zs.map f) acc h = .ok (zs.foldl (fun acc z => putD acc (g z).1 (g z).2) acc) h := by
  induction zs generalizing acc with
  | nil => unfold dcLoop; simp
  | cons z zs ih =>
    rw [List.map_cons]
    unfold dcLoop
    rw [if_pos rfl, p z List.mem_cons_self]
    dsimp only
    rw [ih fun y hy => p y (List.mem_cons_of_mem _ hy)]; rfl
theorem idx_dct {h : Hh} {i : Nat} {kvs : List (L2.Key × D)} (e : h[i]? = some (.dct kvs)) (k : Int) : opIdx h (.ref i) (.int k) = valD kvs (.inl k) := by
  show (match h[i]?, D.int k with | some (.lst xs), .int i => L2.atI xs i | some (.dct kvs), y => (match y.key with | some k => valD kvs k | none => none) | _, _ => none) = _
  rw [e]; rfl
theorem idx_lref {h : Hh} {i : Nat} {xs : List D} (e : h[i]? = some (.lst xs)) (k : Int) : opIdx h (.ref i) (.int k) = L2.atI xs k := by
  show (match h[i]?, D.int k with | some (.lst xs), .int i => L2.atI xs i | some (.dct kvs), y => (match y.key with | some k => valD kvs k | none => none) | _, _ => none) = _
  rw [e]
theorem len_lref {h : Hh} {i : Nat} {xs : List D} (e : h[i]? = some (.lst xs)) : opBf .len h [.ref i] = some (.int xs.length) := by
  show (match h[i]? with | some (.lst ys) => some (D.int ys.length) | some (.dct kvs) => some (D.int kvs.length) | none => none) = _
  rw [e]
theorem any_ints (xs : List Int) (z : Int) : ((xs.map D.int).any fun y => y.eqv (.int z)) = decide (z ∈ xs) := by
  induction xs with
  | nil => simp
  | cons x xs ih =>
    rw [List.map_cons, List.any_cons, ih, eqv_int]
    by_cases e : z = x
    · subst e; simp
    · have e2 : (x == z) = false := beq_eq_false_iff_ne.mpr fun q => e q.symm
      rw [e2]; simp [e]
theorem in_lref {h : Hh} {i : Nat} {xs : List Int} (e : h[i]? = some (.lst (xs.map .int))) (z : Int) : opCmp .inn h (.int z) (.ref i) = some (decide (z ∈ xs)) := by
  show opIn h (.int z) (.ref i) = _
  unfold opIn
  simp only [e]
  rw [shp_lstF (ints_flat xs), any_ints, shp_int]; rfl
theorem nin_lref {h : Hh} {i : Nat} {xs : List Int} (e : h[i]? = some (.lst (xs.map .int))) (z : Int) : opCmp .nin h (.int z) (.ref i) = some (!decide (z ∈ xs)) := by
  rw [nin_eq, in_lref e]; rfl
/-! plain data, so deep at the most -/
inductive Nc : Nat → D → Prop
  | non {n : Nat} : Nc n .non
  | bl {n : Nat} (b : Bool) : Nc n (.bl b)
  | int {n : Nat} (i : Int) : Nc n (.int i)
  | str {n : Nat} (x : Str) : Nc n (.str x)
  | tup {n : Nat} {xs : List D} : xs.length ≤ 1000000 → (∀ x ∈ xs, Nc n x) → Nc (n + 1) (.tup xs)
  | lst {n : Nat} {xs : List D} : xs.length ≤ 1000000 → (∀ x ∈ xs, Nc n x) → Nc (n + 1) (.lst xs)
theorem Nc.up {n : Nat} {d : D} (h : Nc n d) : ∀ m, n ≤ m → Nc m d := by
  induction h with
  | non => intro m _; exact .non
  | bl b => intro m _; exact .bl b
  | int i => intro m _; exact .int i
  | str x => intro m _; exact .str x
  | tup hl _ ih => intro m hm; obtain ⟨k, rfl⟩ : ∃ k, m = k + 1 := ⟨m - 1, by omega⟩; exact .tup hl fun x hx => ih x hx k (by omega)
  | lst hl _ ih => intro m hm; obtain ⟨k, rfl⟩ : ∃ k, m = k + 1 := ⟨m - 1, by omega⟩; exact .lst hl fun x hx => ih x hx k (by omega)
theorem lcT {turn : D → Hh → R (Option D)} {h : Hh} : ∀ {xs : List D} {acc : List D}, (∀ x ∈ xs, turn x h = .ok (some (.bl true)) h) → lcLoop (fun _ => true) turn xs acc h = .ok (.lst (acc ++ List.replicate xs.length (.bl true))) h
  | [], acc, _ => by unfold lcLoop; simp
  | x :: xs, acc, t => by
    unfold lcLoop
    rw [if_pos rfl, t x List.mem_cons_self]
    dsimp only
    rw [lcT fun y hy => t y (List.mem_cons_of_mem _ hy)]
    simp [List.replicate_succ]
theorem bls_map {γ : Type} (p : γ → Bool) : ∀ xs : List γ, D.bls (xs.map fun x => .bl (p x)) = some (xs.map p)
  | [] => rfl
  | x :: xs => by show (D.bls (xs.map fun x => .bl (p x))).map _ = _; rw [bls_map p xs]; rfl
theorem all_map {γ : Type} {h : Hh} (p : γ → Bool) (xs : List γ) : opBf .all h [.lst (xs.map fun x => .bl (p x))] = some (.bl (xs.all p)) := by
  show ((some (xs.map fun x => D.bl (p x))).bind D.bls).map _ = _
  rw [Option.bind_some, bls_map]
  show some (D.bl ((xs.map p).all id)) = _
  rw [List.all_map]; rfl
theorem all_rep {h : Hh} (n : Nat) : opBf .all h [.lst (List.replicate n (.bl true))] = some (.bl true) := by
  have : List.replicate n (D.bl true) = (List.range n).map fun x => .bl ((fun _ => true) x) := by
    rw [List.map_const', List.length_range]
  rw [this, all_map]
  simp
end PW
end

section
set_option maxRecDepth 100000
namespace K32
open PySem PV Kn
@[simp] theorem turn_v {F : Fns} {G : List D} {i : Nat} {c e : E} {ρ : PV.Env} {x : D} {h : Hh} : lcTurn (.v i) (evE F G c) (evE F G e) ρ x h = ((evE F G c).t (ρ.set i (some x)) h).bnd (fun ok h3 => if ok then ((evE F G e).v (ρ.set i (some x)) h3).bnd (fun y h4 => .ok (some y) h4) ⟨⟩ else .ok none h3) ⟨⟩ := id rfl
@[simp] theorem turn_tu {F : Fns} {G : List D} {i j : Nat} {c e : E} {ρ : PV.Env} {x y : D} {h : Hh} : lcTurn (.tu [i, j]) (evE F G c) (evE F G e) ρ (.tup [x, y]) h = ((evE F G c).t ((ρ.set i (some x)).set j (some y)) h).bnd (fun ok h3 => if ok then ((evE F G e).v ((ρ.set i (some x)).set j (some y)) h3).bnd (fun y h4 => .ok (some y) h4) ⟨⟩ else .ok none h3) ⟨⟩ := id rfl
section
variable {k : Nat} {h : Hh} {r0 r1 r2 r3 r4 : Option D}
theorem ins_fs : ∀ ks : Ks, A2 (fun x y => lcTurn (.tu [2, 3]) (evE (F k) G c_insides_0) (evE (F k) G x_insides_0) [r0, r1, r2, r3, r4] x h = .ok (some y) h) ks.fs ks.ds
  | .nil => .nil
  | .cons b kd r => .cons (by simp) (ins_fs r)
theorem ins_gs : ∀ ks : Ks, A2 (fun x y => lcTurn (.tu [4, 2]) (evE (F k) G c_insides_1) (evE (F k) G x_insides_1) [r0, r1, r2, r3, r4] x h = .ok (some y) h) ks.gs ks.ds
  | .nil => .nil
  | .cons b kd r => .cons (by simp) (ins_gs r)
end
theorem insides_ok (k : Nat) (h : Hh) (d : Kd) (hs : d.sm) : C (k + 1) n_insides [d.d] h = .ok (.tup d.ins) h := by
  cases d with
  | un w d => cases w <;> simp [C_insides, Kd.d, Kd.ins]
  | int => simp [C_insides, Kd.d, Kd.ins]
  | free n => simp [C_insides, Kd.d, Kd.ins]
  | var n => simp [C_insides, Kd.d, Kd.ins]
  | to n ks l =>
    have hz : ks.len ≤ 16777215 := by have := hs.1; omega
    simp [C_insides, Kd.d, Kd.ins, hz]
  | mn m ks =>
    have hz : ks.len ≤ 16777216 := by have := hs.1; omega
    cases m <;> simp [C_insides, Kd.d, Kd.ins, hz, lcA (ins_fs ks), lcA (ins_gs ks)]
theorem binds_ok (k : Nat) (h : Hh) (d : Kd) : C (k + 1) n_binds [d.d] h = .ok (.int d.bn) h := by
  cases d with
  | un w d => cases w <;> simp [C_binds, Kd.d, Kd.bn]
  | mn m ks => cases m <;> simp [C_binds, Kd.d, Kd.bn]
  | _ => simp [C_binds, Kd.d, Kd.bn]
/-! ### with_insides -/
section
variable {k : Nat} {h : Hh} {r0 r1 r2 r3 r4 : Option D} {g : Leaf} {u : Nat}
theorem with_fs : ∀ ks : Ks, A2 (fun x y => lcTurn (.tu [3, 4]) (evE (F k) G c_with_insides_0) (evE (F k) G x_with_insides_0) [r0, r1, r2, r3, r4] x h = .ok (some y) h) (zipD (ks.tr g u).ds ks.fs) (ks.tr g u).fs
  | .nil => .nil
  | .cons b kd r => .cons (by simp) (with_fs r)
theorem with_gs : ∀ ks : Ks, A2 (fun x y => lcTurn (.tu [3, 4]) (evE (F k) G c_with_insides_1) (evE (F k) G x_with_insides_1) [r0, r1, r2, r3, r4] x h = .ok (some y) h) (zipD (ks.tr g u).ds ks.gs) (ks.tr g u).gs
  | .nil => .nil
  | .cons b kd r => .cons (by simp) (with_gs r)
end
theorem zipD_len (xs ys : List D) : (zipD xs ys).length = min xs.length ys.length := by simp [zipD]
theorem with_inn (k : Nat) (h : Hh) (g : Leaf) (u : Nat) (d : Kd) (hs : d.sm) (hl : d.leaf = false) : C (k + 1) n_with_insides [d.d, .tup (d.ini g u)] h = .ok (d.inn g u).d h := by
  cases d with
  | un w d => cases w <;> simp [C_with_insides, Kd.d, Kd.ini, Kd.inn]
  | to n ks l =>
    have hz : ks.len ≤ 16777215 := by have := hs.1; omega
    simp [C_with_insides, Kd.d, Kd.ini, Kd.inn, hz]
  | mn m ks =>
    have hz : ks.len ≤ 16777216 := by have := hs.1; omega
    cases m <;> simp [C_with_insides, Kd.d, Kd.ini, Kd.inn, zipD_len, hz, lcA (with_fs ks), lcA (with_gs ks)]
  | _ => cases hl
theorem with_ok (k : Nat) (h : Hh) (g : Leaf) (u : Nat) (d : Kd) (hs : d.sm) (hl : d.leaf = false) : C (k + 1) n_with_insides [d.d, .tup (d.tri g u)] h = .ok (d.tr g u).d h := by
  rw [tri_ini, tr_inn g u hl]; exact with_inn k h g _ d hs hl
theorem with_leaf (k : Nat) (h : Hh) (d : Kd) (hl : d.leaf = true) : C (k + 1) n_with_insides [d.d, .tup []] h = .ok d.d h := by
  cases d <;> simp [Kd.leaf] at hl <;> simp [C_with_insides, Kd.d]
/-! ### the replacings -/
theorem ins_len (d : Kd) (hs : d.sm) : d.ins.length ≤ 1001 := by
  cases d <;> simp [Kd.ins]
  · exact Nat.le_trans hs.1 (by omega)
  · exact hs.1
def kds (ss : List Kd) : List D := ss.map Kd.d
@[simp] theorem kds_len (ss : List Kd) : (kds ss).length = ss.length := List.length_map ..
theorem kds_at {ss : List Kd} {n : Nat} (hn : n < ss.length) : L2.atI (kds ss) (n : Int) = some (ss[n].d) := L2.atI_nat (by simp [kds, List.getElem?_eq_getElem hn])
def Kd.nm : Kd → Str
  | .int => "int" | .free _ => "free" | .var _ => "var" | .un w _ => w.nm | .mn m _ => m.nm | .to _ _ _ => "to"
theorem idx0 (h : Hh) (d : Kd) : opIdx h d.d (.int 0) = some (.str (Kd.nm d)) := by
  cases d with
  | un w d => cases w <;> simp [Kd.d, Kd.nm]
  | mn m ks => cases m <;> simp [Kd.d, Kd.nm]
  | _ => simp [Kd.d, Kd.nm]
theorem nm_var {d : Kd} (hl : d.leaf = false) : (Kd.nm d = Str.ofString "var") = False := by
  cases d with
  | un w d => cases w <;> simp [Kd.nm]
  | mn m ks => cases m <;> simp [Kd.nm]
  | to n ks l => simp [Kd.nm]
  | _ => cases hl
theorem nm_free {d : Kd} (hl : d.leaf = false) : (Kd.nm d = Str.ofString "free") = False := by
  cases d with
  | un w d => cases w <;> simp [Kd.nm]
  | mn m ks => cases m <;> simp [Kd.nm]
  | to n ks l => simp [Kd.nm]
  | _ => cases hl
section
variable {h : Hh} {ss : List Kd} {u m : Nat} {d : Kd}
theorem put_turns {xs ys : List D} {r0 r3 : Option D} {mo : Int} (hb : A2 (fun x y => C (m + 1) n_put_below [x, .int mo, .tup (kds ss)] h = .ok y h) xs ys) :
    A2 (fun x y => lcTurn (.v 5) (evE (F (m + 1)) G c_put_below_0) (evE (F (m + 1)) G x_put_below_0) [r0, some (.int u), some (.tup (kds ss)), r3, some (.int mo), none] x h = .ok (some y) h) xs ys :=
  hb.imp fun x y p => by simp [p]
theorem put_step (hs : d.sm) (hl : d.leaf = false) (hb : A2 (fun x y => C (m + 1) n_put_below [x, .int (u + d.bn : Nat), .tup (kds ss)] h = .ok y h) d.ins (d.tri (putG ss) u)) :
    C (m + 2) n_put_below [d.d, .int u, .tup (kds ss)] h = .ok (d.tr (putG ss) u).d h := by
  have hz : d.ins.length ≤ 16777216 := by have := ins_len d hs; omega
  have hb' := put_turns (u := u) (r0 := some d.d) (r3 := none) hb
  simp only [Int.natCast_add] at hb'
  simp [C_put_below, idx0, nm_var hl, binds_ok, insides_ok m h d hs, hz, lcA hb', with_ok m h (putG ss) u d hs hl]
end
end K32
end

section
set_option maxRecDepth 100000
namespace K32
open PySem PV Kn
theorem sub_nat {v u : Nat} (h : u ≤ v) : (v : Int) - (u : Int) = ((v - u : Nat) : Int) := (Int.ofNat_sub h).symm
section
variable {h : Hh} {ss : List Kd} {o : List Nat}
theorem put_var (m v u : Nat) : C (m + 1) n_put_below [(Kd.var v).d, .int u, .tup (kds ss)] h = .ok (putG ss u false v).d h := by
  unfold putG
  by_cases hu : v < u
  · have e : (v : Int) - (u : Int) < 0 := by omega
    simp [C_put_below, Kd.d, e, hu]
  · have e : ¬ (v : Int) - (u : Int) < 0 := by omega
    by_cases hc : v - u < ss.length
    · have e2 : (v : Int) - (u : Int) < (ss.length : Int) := by omega
      have e3 := kds_at hc
      rw [← sub_nat (by omega)] at e3
      simp [C_put_below, Kd.d, e, hu, e2, e3, hc]
    · have e2 : ¬ (v : Int) - (u : Int) < (ss.length : Int) := by omega
      have e3 : (v : Int) - (ss.length : Int) = ((v - ss.length : Nat) : Int) := sub_nat (by omega)
      have e4 : ss[v - u]? = none := List.getElem?_eq_none (by omega)
      simp [C_put_below, Kd.d, e, hu, e2, e4, e3]
mutual
theorem put_ok : ∀ (d : Kd) (u n : Nat), d.sm → d.dep ≤ n → C (n + 3) n_put_below [d.d, .int u, .tup (kds ss)] h = .ok (d.tr (putG ss) u).d h
  | .int, u, n, _, _ => by simp [C_put_below, C_binds, C_insides, C_with_insides, Kd.d, Kd.tr, lcLoop]
  | .free v, u, n, _, _ => by simp [C_put_below, C_binds, C_insides, C_with_insides, Kd.d, Kd.tr, lcLoop, putG]
  | .var v, u, n, _, _ => put_var (n + 2) v u
  | .un w d, u, n + 1, hs, hd => put_step (m := n + 2) hs rfl (.cons (put_ok d (u + w.bn) n hs (by simp [Kd.dep] at hd; omega)) .nil)
  | .mn m ks, u, n + 1, hs, hd => put_step (m := n + 2) hs rfl (puts_ok ks (u + m.bn) n hs.2 (by simp [Kd.dep] at hd; omega))
  | .to b ks l, u, n + 1, hs, hd => put_step (m := n + 2) hs rfl ((puts_ok ks (u + b) n hs.2.1 (by simp [Kd.dep] at hd; omega)).app (.cons (put_ok l (u + b) n hs.2.2 (by simp [Kd.dep] at hd; omega)) .nil))
  | .un _ _, _, 0, _, hd => by simp [Kd.dep] at hd
  | .mn _ _, _, 0, _, hd => by simp [Kd.dep] at hd
  | .to _ _ _, _, 0, _, hd => by simp [Kd.dep] at hd
theorem puts_ok : ∀ (ks : Ks) (u n : Nat), ks.sm → ks.dep ≤ n → A2 (fun x y => C (n + 3) n_put_below [x, .int u, .tup (kds ss)] h = .ok y h) ks.ds (ks.tr (putG ss) u).ds
  | .nil, u, n, _, _ => .nil
  | .cons b k r, u, n, hs, hd => .cons (put_ok k u n hs.1 (by simp [Ks.dep] at hd; omega)) (puts_ok r u n hs.2 (by simp [Ks.dep] at hd; omega))
end
end
end K32
end

section
set_option maxRecDepth 100000
namespace K32
open PySem PV Kn
/-- a binder -/
def Kd.isB : Kd → Bool
  | .un .cel _ => false | .un _ _ => true
  | .mn (.not _) _ => true | .mn (.code _) _ => true
  | .to _ _ _ => true
  | _ => false
/-- what opened tells: the inside -/
def Kd.op : Kd → D
  | .un _ k => k.d
  | .mn (.code _) ks => .tup ks.gs
  | .mn _ ks => .tup ks.ds
  | .to _ ks l => .tup [.tup ks.ds, l.d]
  | k => k.d
theorem isB_leaf {d : Kd} (h : Kd.isB d = true) : d.leaf = false := by cases d <;> first | rfl | cases h
section
variable {h : Hh} {ss : List Kd} {d : Kd} {n : Nat}
theorem puts0 (hs : d.sm) (hd : d.dep ≤ n + 1) : A2 (fun x y => C (n + 3) n_put_below [x, .int 0, .tup (kds ss)] h = .ok y h) d.ins (d.ini (putG ss) 0) := by
  cases d with
  | un w k => exact .cons (put_ok k 0 n hs (by simp [Kd.dep] at hd; omega)) .nil
  | mn m ks => exact puts_ok ks 0 n hs.2 (by simp [Kd.dep] at hd; omega)
  | to b ks l => exact (puts_ok ks 0 n hs.2.1 (by simp [Kd.dep] at hd; omega)).app (.cons (put_ok l 0 n hs.2.2 (by simp [Kd.dep] at hd; omega)) .nil)
  | _ => exact .nil
theorem opened_turns {xs ys : List D} {r0 r2 : Option D} {m : Nat} (hb : A2 (fun x y => C m n_put_below [x, .int 0, .tup (kds ss)] h = .ok y h) xs ys) :
    A2 (fun x y => lcTurn (.v 3) (evE (F m) G c_opened_0) (evE (F m) G x_opened_0) [r0, some (.tup (kds ss)), r2, none] x h = .ok (some y) h) xs ys :=
  hb.imp fun x y p => by simp [p]
theorem opened_ok (hs : d.sm) (hB : Kd.isB d = true) (hd : d.dep ≤ n + 1) : C (n + 4) n_opened [d.d, .tup (kds ss)] h = .ok (Kd.op (d.inn (putG ss) 0)) h := by
  have hz : d.ins.length ≤ 16777216 := by have := ins_len d hs; omega
  have hb := opened_turns (r0 := some d.d) (r2 := none) (puts0 (h := h) (ss := ss) hs hd)
  have hw := with_inn (n + 2) h (putG ss) 0 d hs (isB_leaf hB)
  simp [C_opened, insides_ok (n + 2) h d hs, hz, lcA hb, hw, idx0]
  cases d with
  | un w k => cases w <;> first | (simp [Kd.nm, Kd.inn, Kd.d, Kd.op]; done) | cases hB
  | mn m ks => cases m <;> first | (simp [Kd.nm, Kd.inn, Kd.d, Kd.op]; done) | cases hB
  | to b ks l => simp [Kd.nm, Kd.inn, Kd.d, Kd.op]
  | _ => cases hB
end
end K32
end

section
set_option maxRecDepth 100000
namespace K32
open PySem PV Kn
theorem lcM {turn : D → Hh → R (Option D)} {h : Hh} (g : D → D) {xs : List D} {acc : List D} (p : ∀ x ∈ xs, turn x h = .ok (some (g x)) h) : lcLoop (fun _ => true) turn xs acc h = .ok (.lst (acc ++ xs.map g)) h := by
  rw [lcF (fun x => some (g x)) p]
  simp
theorem bls_map (p : D → Bool) : ∀ xs : List D, D.bls (xs.map fun x => .bl (p x)) = some (xs.map p)
  | [] => rfl
  | x :: xs => by show (D.bls (xs.map fun x => .bl (p x))).map _ = _; rw [bls_map p xs]; rfl
theorem all_map {h : Hh} (p : D → Bool) (xs : List D) : opBf .all h [.lst (xs.map fun x => .bl (p x))] = some (.bl (xs.all p)) := by
  show ((D.bls (xs.map fun x => .bl (p x))).map fun bs => D.bl (bs.all id)) = _
  rw [bls_map]
  simp
section
variable {h : Hh} {k : Nat}
theorem ne_nil {xs : List D} (hx : P64 (.tup xs)) : opCmp .ne h (.tup xs) (.tup []) = some (!xs.isEmpty) := by
  show Option.map _ (if D.cok (D.tup xs) (D.tup []) then some ((D.tup xs).eqv (.tup [])) else none) = _
  rw [cok_shp hx.shp shp_strs0]
  cases xs <;> rfl
theorem eq_nil {xs : List D} (hx : P64 (.tup xs)) : opCmp .eq h (.tup xs) (.tup []) = some (xs.isEmpty) := by
  show (if D.cok (D.tup xs) (D.tup []) then some ((D.tup xs).eqv (.tup [])) else none) = _
  rw [cok_shp hx.shp shp_strs0]
  cases xs <;> rfl
theorem is_integer_ok (x : D) (hx : x.isF = false) : C (k + 1) n_is_integer [x] h = .ok (.bl (match x with | .int _ => true | _ => false)) h := by
  cases x <;> simp [C_is_integer, opIsi, D.isF] at hx ⊢
theorem is_tuple_of_ok (n : Int) (x : D) (hx : x.isF = false) : C (k + 1) n_is_tuple_of [.int n, x] h = .ok (.bl (match x with | .tup xs => (xs.length : Int) == n | _ => false)) h := by
  cases x <;> simp [C_is_tuple_of, opIsi, D.isF] at hx ⊢
def neTup : D → Bool
  | .tup xs => !xs.isEmpty
  | _ => false
def hdStr : D → Bool
  | .tup (.str _ :: _) => true
  | _ => false
theorem isHd_eq (x : D) : isHd x = (neTup x && hdStr x) := by
  unfold isHd neTup hdStr
  split
  · rfl
  · split <;> simp_all
theorem is_kinds_tup {xs : List D} (hx : ∀ y ∈ xs, P64 y) (hl : xs.length ≤ 1000000) : C (k + 1) n_is_kinds [.tup xs] h = .ok (.bl (isHds (.tup xs))) h := by
    have hz : xs.length ≤ 16777216 := by omega
    have l1 : ∀ {r : Option D}, lcLoop (fun _ => true) (lcTurn (.v 1) (evE (F k) G c_is_kinds_0) (evE (F k) G x_is_kinds_0) [r, none]) xs [] h = .ok (.lst (xs.map fun x => .bl (neTup x))) h := by
      intro r
      refine lcM (acc := []) (fun x => .bl (neTup x)) fun y hy => ?_
      have py := hx y hy
      cases y with
      | tup ys => simp [opIsi, D.isF, ne_nil py, neTup]
      | _ => first | (simp [opIsi, D.isF, neTup]; done) | cases py.1
    by_cases ha : xs.all neTup = true
    · have l2 : ∀ {r : Option D}, lcLoop (fun _ => true) (lcTurn (.v 1) (evE (F k) G c_is_kinds_1) (evE (F k) G x_is_kinds_1) [r, none]) xs [] h = .ok (.lst (xs.map fun x => .bl (hdStr x))) h := by
        intro r
        refine lcM (acc := []) (fun x => .bl (hdStr x)) fun y hy => ?_
        have py := hx y hy
        have ny := List.all_eq_true.mp ha y hy
        cases y with
        | tup ys =>
          cases ys with
          | nil => cases ny
          | cons a r =>
            have pa := py.sub List.mem_cons_self
            cases a <;> first | (simp [opIsi, D.isF, hdStr]; done) | cases pa.1
        | _ => cases ny
      have e : xs.all isHd = xs.all hdStr := by
        have : ∀ ys : List D, ys.all neTup = true → ys.all isHd = ys.all hdStr := by
          intro ys
          induction ys with
          | nil => intro _; rfl
          | cons a r ih =>
            intro hy
            simp only [List.all_cons, Bool.and_eq_true] at hy ⊢
            rw [ih hy.2, isHd_eq, hy.1, Bool.true_and]
        exact this xs ha
      simp [C_is_kinds, opIsi, D.isF, hz, l1, l2, all_map, ha, isHds, e]
    · have e : xs.all isHd = false := by
        cases q : xs.all isHd with
        | false => rfl
        | true =>
          exfalso; apply ha
          refine List.all_eq_true.mpr fun y hy => ?_
          have := List.all_eq_true.mp q y hy
          rw [isHd_eq] at this
          simp only [Bool.and_eq_true] at this
          exact this.1
      have ha : xs.all neTup = false := by simpa using ha
      simp [C_is_kinds, opIsi, D.isF, hz, l1, all_map, ha, isHds, e]
theorem is_kinds_ok (x : D) (hx : P64 x) : C (k + 1) n_is_kinds [x] h = .ok (.bl (isHds x)) h := by
  cases x with
  | tup xs => exact is_kinds_tup (fun y hy => hx.sub hy) hx.len
  | _ => first | (simp [C_is_kinds, opIsi, D.isF, isHds]; done) | cases hx.1
theorem is_pairs_ok (x : D) (hx : P64 x) : C (k + 2) n_is_pairs [x] h = .ok (.bl (isPrs x)) h := by
  cases x with
  | tup xs =>
    have hz : xs.length ≤ 16777216 := Nat.le_trans hx.len (by omega)
    have l1 : ∀ {r : Option D}, lcLoop (fun _ => true) (lcTurn (.v 1) (evE (F (k + 1)) G c_is_pairs_0) (evE (F (k + 1)) G x_is_pairs_0) [r, none]) xs [] h = .ok (.lst (xs.map fun x => .bl (isPr x))) h := by
      intro r
      refine lcM (acc := []) (fun x => .bl (isPr x)) fun y hy => ?_
      have py := hx.sub hy
      have e : C (k + 1) n_is_tuple_of [.int 2, y] h = .ok (.bl (isPr y)) h := by
        have f : y.isF = false := by cases y <;> first | rfl | cases py.1
        rw [is_tuple_of_ok 2 y f]
        congr 2
        cases y with
        | tup ys =>
          rcases ys with _ | ⟨a, _ | ⟨b, _ | ⟨c, r⟩⟩⟩ <;> simp [isPr] <;> omega
        | _ => rfl
      simp [e]
    simp [C_is_pairs, opIsi, D.isF, hz, l1, all_map, isPrs]
  | _ => first | (simp [C_is_pairs, opIsi, D.isF, isPrs]; done) | cases hx.1
end
end K32
end

section
set_option maxRecDepth 100000
namespace K32
open PySem PV Kn
theorem rise_range : ∀ xs : List D, (List.range (xs.length - 1)).all (fun k => ltD (xs.getD k .non) (xs.getD (k + 1) .non)) = rise xs
  | [] => rfl
  | [x] => rfl
  | x :: y :: r => by
    have ih := rise_range (y :: r)
    show (List.range (r.length + 1)).all _ = (ltD x y && rise (y :: r))
    rw [List.range_succ_eq_map, List.all_cons, List.all_map, ← ih]
    rfl
def riseAt (xs : List D) : D → Bool
  | .int i => ltD (xs.getD i.toNat .non) (xs.getD (i.toNat + 1) .non)
  | _ => false
theorem h62 : (2 : Int) ^ 62 = 4611686018427387904 := by decide +kernel
theorem rng_ok {n : Int} (h0 : -1 ≤ n) (hn : n ≤ 1000000000) : rngOk 0 n = true := by
  unfold rngOk
  rw [h62]
  (simp only [Bool.and_eq_true, decide_eq_true_eq])
  omega
theorem rngD_len (n : Int) : (rngD 0 n).length = n.toNat := by simp [rngD]
section
variable {h : Hh} {k : Nat}
theorem is_rising_ok {xs : List D} (hp : ∀ x ∈ xs, P64 x) (hz : xs.length ≤ 1000000) : C (k + 2) n_is_rising [.lst xs] h = .ok (.bl (rising xs)) h := by
  have hz' : xs.length ≤ 16777216 := by omega
  have l1 : ∀ {r r2 : Option D}, lcLoop (fun _ => true) (lcTurn (.v 1) (evE (F (k + 1)) G c_is_rising_0) (evE (F (k + 1)) G x_is_rising_0) [r, none, r2]) xs [] h = .ok (.lst (xs.map fun x => .bl (isNt x))) h := by
    intro r r2
    refine lcM (acc := []) (fun x => .bl (isNt x)) fun y hy => ?_
    have py := hp y hy
    have f : y.isF = false := by cases y <;> first | rfl | cases py.1
    cases y <;> simp [is_integer_ok _ f, isNt]
  by_cases ha : xs.all isNt = true
  · have hr : rngOk 0 ((xs.length : Int) - 1) = true := rng_ok (by omega) (by omega)
    have hz2 : xs.length ≤ 16777217 := by omega
    have hl : ((xs.length : Int) - 1).toNat ≤ 16777216 := by omega
    have l2 : ∀ {r : Option D}, lcLoop (fun _ => true) (lcTurn (.v 2) (evE (F (k + 1)) G c_is_rising_1) (evE (F (k + 1)) G x_is_rising_1) [some (.lst xs), r, none]) (rngD 0 ((xs.length : Int) - 1)) [] h = .ok (.lst ((rngD 0 ((xs.length : Int) - 1)).map fun x => .bl (riseAt xs x))) h := by
      intro r
      refine lcM (acc := []) (fun x => .bl (riseAt xs x)) fun y hy => ?_
      unfold rngD at hy
      obtain ⟨i, hi, rfl⟩ := List.mem_map.mp hy
      have hi := List.mem_range.mp hi
      have h1 : i < xs.length := by omega
      have h2 : i + 1 < xs.length := by omega
      have e1 : L2.atI xs (i : Int) = some xs[i] := L2.atI_nat (List.getElem?_eq_getElem h1)
      have e2 : L2.atI xs ((i : Int) + 1) = some xs[i + 1] := by
        have := L2.atI_nat (j := i + 1) (List.getElem?_eq_getElem h2)
        simpa using this
      have a1 := List.all_eq_true.mp ha _ (List.getElem_mem h1)
      have a2 := List.all_eq_true.mp ha _ (List.getElem_mem h2)
      cases q1 : xs[i] <;> rw [q1] at a1 <;> first | cases a1 | skip
      cases q2 : xs[i + 1] <;> rw [q2] at a2 <;> first | cases a2 | skip
      simp [e1, e2, q1, q2, h1, h2, ltD, riseAt]
    have e : (rngD 0 ((xs.length : Int) - 1)).all (riseAt xs) = rise xs := by
      rw [← rise_range xs]
      unfold rngD
      rw [List.all_map]
      have : ((xs.length : Int) - 1 - 0).toNat = xs.length - 1 := by omega
      rw [this]
      congr 1
      funext i
      simp [riseAt]
    have al := all_map (h := h) (riseAt xs) (rngD 0 ((xs.length : Int) - 1))
    rw [e] at al
    simp [C_is_rising, hz', l1, l2, all_map isNt, ha, hr, rngD_len, hl, hz2, al, rising]
  · have ha : xs.all isNt = false := by simpa using ha
    simp [C_is_rising, hz', l1, all_map isNt, ha, rising]
end
end K32
end

section
set_option maxRecDepth 100000
namespace K32
open PySem PV Kn
section
variable {h : Hh} {k : Nat}
theorem form_int {rest : List D} (hx : P64 (.tup (.str "int" :: rest))) : C (k + 3) n_has_form [.tup (.str "int" :: rest)] h = .ok (.bl rest.isEmpty) h := by
  simp [C_has_form, eq_nil hx.tl]
theorem form_var {w : Str} {rest : List D} (hx : P64 (.tup (.str w :: rest))) (hw : w = "free" ∨ w = "var") : C (k + 3) n_has_form [.tup (.str w :: rest)] h = .ok (.bl (one1 isNt rest)) h := by
  rcases rest with _ | ⟨x, _ | ⟨y, r⟩⟩
  · rcases hw with rfl | rfl <;> simp [C_has_form, one1]
  · have px := hx.tl.sub List.mem_cons_self
    rcases hw with rfl | rfl <;> cases x <;> simp [C_has_form, is_integer_ok _ px.nf, isNt, one1]
  · have e : ((r.length : Int) + 1 + 1 == 1) = false := beq_eq_false_iff_ne.mpr (by omega)
    rcases hw with rfl | rfl <;> simp [C_has_form, e, one1]
theorem form_un {w : Str} {rest : List D} (hx : P64 (.tup (.str w :: rest))) (hw : w = "cell" ∨ w = "some" ∨ w = "rec") : C (k + 3) n_has_form [.tup (.str w :: rest)] h = .ok (.bl (one1 (fun x => isHd x && (!decide (w = "rec") || !hdV x)) rest)) h := by
  rcases rest with _ | ⟨x, _ | ⟨y, r⟩⟩
  · rcases hw with rfl | rfl | rfl <;> simp [C_has_form, one1]
  · have e := is_kinds_ok (k := k + 1) (h := h) _ hx.tl
    have e2 : isHds (.tup [x]) = isHd x := by simp [isHds]
    rw [e2] at e
    cases q : isHd x with
    | false => rw [q] at e; rcases hw with rfl | rfl | rfl <;> simp [C_has_form, e, one1, q]
    | true =>
      rw [q] at e
      unfold isHd at q
      split at q
      · rename_i w' r
        have hs : PyData.strOk w' = true := ((hx.tl.sub List.mem_cons_self).sub List.mem_cons_self).1
        rcases hw with rfl | rfl | rfl <;> simp [C_has_form, e, one1, isHd, hdV, hs, eq_comm]
      · cases q
  · have e : ((r.length : Int) + 1 + 1 == 1) = false := beq_eq_false_iff_ne.mpr (by omega)
    rcases hw with rfl | rfl | rfl <;> simp [C_has_form, e, one1]
theorem form_row {w : Str} {rest : List D} (hx : P64 (.tup (.str w :: rest))) (hw : w = "row" ∨ w = "one") : C (k + 3) n_has_form [.tup (.str w :: rest)] h = .ok (.bl (one1 (fun x => isHds x && (decide (w = "row") || !(items x).isEmpty)) rest)) h := by
  rcases rest with _ | ⟨x, _ | ⟨y, r⟩⟩
  · rcases hw with rfl | rfl <;> simp [C_has_form, one1]
  · have px := hx.tl.sub List.mem_cons_self
    have e := is_kinds_ok (k := k + 1) (h := h) _ px
    cases q : isHds x with
    | false => rw [q] at e; rcases hw with rfl | rfl <;> simp [C_has_form, e, one1, q]
    | true =>
      rw [q] at e
      cases x with
      | tup xs => rcases hw with rfl | rfl <;> simp [C_has_form, e, one1, q, ne_nil px, items]
      | _ => cases q
  · have e : ((r.length : Int) + 1 + 1 == 1) = false := beq_eq_false_iff_ne.mpr (by omega)
    rcases hw with rfl | rfl <;> simp [C_has_form, e, one1]
theorem form_room {rest : List D} (hx : P64 (.tup (.str "room" :: rest))) : C (k + 3) n_has_form [.tup (.str "room" :: rest)] h = .ok (.bl (one1 (fun x => isPrs x && (items x).all fun p => isBl (snd p)) rest)) h := by
  rcases rest with _ | ⟨x, _ | ⟨y, r⟩⟩
  · simp [C_has_form, one1]
  · have px := hx.tl.sub List.mem_cons_self
    have e := is_pairs_ok (k := k) (h := h) _ px
    cases q : isPrs x with
    | false => rw [q] at e; simp [C_has_form, e, one1, q]
    | true =>
      rw [q] at e
      cases x with
      | tup xs =>
        have hz : xs.length ≤ 16777216 := Nat.le_trans px.len (by omega)
        have l1 : ∀ {r0 r1 r2 : Option D}, lcLoop (fun _ => true) (lcTurn (.v 3) (evE (F (k + 2)) G c_has_form_0) (evE (F (k + 2)) G x_has_form_0) [r0, r1, r2, none]) xs [] h = .ok (.lst (xs.map fun p => .bl (isBl (snd p)))) h := by
          intro r0 r1 r2
          refine lcM (acc := []) (fun p => .bl (isBl (snd p))) fun y hy => ?_
          have py := List.all_eq_true.mp q y hy
          have hy2 := px.sub hy
          unfold isPr at py
          split at py
          · rename_i a b
            have pb := hy2.sub (x := b) (by simp)
            cases b <;> first | (simp [pb.nf, snd, isBl, opIsi]; done) | cases pb.1
          · cases py
        simp [C_has_form, e, one1, q, hz, l1, all_map (fun p => isBl (snd p)), items]
      | _ => cases q
  · have e : ((r.length : Int) + 1 + 1 == 1) = false := beq_eq_false_iff_ne.mpr (by omega)
    simp [C_has_form, e, one1]
theorem g0 : (G[0]? : Option D) = some (.int 10000) := rfl
theorem form_not {rest : List D} (hx : P64 (.tup (.str "not" :: rest))) : C (k + 3) n_has_form [.tup (.str "not" :: rest)] h = .ok (.bl (two2 (fun n x => inB n && isHds x) rest)) h := by
  rcases rest with _ | ⟨x, _ | ⟨y, _ | ⟨z, r⟩⟩⟩
  · simp [C_has_form, two2]
  · simp [C_has_form, two2]
  · have px := hx.tl.sub List.mem_cons_self
    have py := hx.tl.tl.sub List.mem_cons_self
    have e := is_kinds_ok (k := k + 1) (h := h) _ py
    have e0 := is_kinds_ok (k := k + 1) (h := h) _ hx.tl.tl.tl
    cases x with
    | int n =>
      by_cases h0 : 0 ≤ n
      · by_cases h1 : n ≤ 10000
        · rw [show isHds (.tup []) = true from rfl] at e0
          cases q : isHds y <;> rw [q] at e <;> simp [C_has_form, is_integer_ok _ px.nf, h0, h1, e, e0, two2, inB, bnd, q]
        · simp [C_has_form, is_integer_ok _ px.nf, h0, h1, two2, inB, bnd]
      · simp [C_has_form, is_integer_ok _ px.nf, h0, two2, inB, bnd]
    | _ => simp [C_has_form, is_integer_ok _ px.nf, two2, inB]
  · have e : ((r.length : Int) + 1 + 1 + 1 == 2) = false := beq_eq_false_iff_ne.mpr (by omega)
    simp [C_has_form, e, two2]
theorem form_to {rest : List D} (hx : P64 (.tup (.str "to" :: rest))) : C (k + 3) n_has_form [.tup (.str "to" :: rest)] h = .ok (.bl (three3 (fun n x y => inB n && (isHds x && isHd y)) rest)) h := by
  rcases rest with _ | ⟨x, _ | ⟨y, _ | ⟨z, _ | ⟨t, r⟩⟩⟩⟩
  · simp [C_has_form, three3]
  · simp [C_has_form, three3]
  · simp [C_has_form, three3]
  · have px := hx.tl.sub List.mem_cons_self
    have py := hx.tl.tl.sub List.mem_cons_self
    have e := is_kinds_ok (k := k + 1) (h := h) _ py
    have e0 := is_kinds_ok (k := k + 1) (h := h) _ hx.tl.tl.tl
    rw [show isHds (.tup [z]) = isHd z from by simp [isHds]] at e0
    cases x with
    | int n =>
      by_cases h0 : 0 ≤ n
      · by_cases h1 : n ≤ 10000
        · cases q : isHds y <;> cases q2 : isHd z <;> rw [q] at e <;> rw [q2] at e0 <;> simp [C_has_form, is_integer_ok _ px.nf, h0, h1, e, e0, three3, inB, bnd, q, q2]
        · simp [C_has_form, is_integer_ok _ px.nf, h0, h1, three3, inB, bnd]
      · simp [C_has_form, is_integer_ok _ px.nf, h0, three3, inB, bnd]
    | _ => simp [C_has_form, is_integer_ok _ px.nf, three3, inB]
  · have e : ((r.length : Int) + 1 + 1 + 1 + 1 == 3) = false := beq_eq_false_iff_ne.mpr (by omega)
    simp [C_has_form, e, three3]
theorem form_code {rest : List D} (hx : P64 (.tup (.str "code" :: rest))) : C (k + 3) n_has_form [.tup (.str "code" :: rest)] h = .ok (.bl (two2 (fun n x => inB n && (isPrs x && rising ((items x).map fst))) rest)) h := by
  rcases rest with _ | ⟨x, _ | ⟨y, _ | ⟨z, r⟩⟩⟩
  · simp [C_has_form, two2]
  · simp [C_has_form, two2]
  · have px := hx.tl.sub List.mem_cons_self
    have py := hx.tl.tl.sub List.mem_cons_self
    have e := is_pairs_ok (k := k) (h := h) _ py
    cases x with
    | int n =>
      by_cases h0 : 0 ≤ n
      · by_cases h1 : n ≤ 10000
        · cases q : isPrs y with
          | false => rw [q] at e; simp [C_has_form, is_integer_ok _ px.nf, h0, h1, e, two2, inB, bnd, q]
          | true =>
            rw [q] at e
            cases y with
            | tup xs =>
              have hz : xs.length ≤ 16777216 := Nat.le_trans py.len (by omega)
              have pr : ∀ y ∈ xs, ∃ a b, y = .tup [a, b] ∧ P64 a := fun y hy => by
                have q1 := List.all_eq_true.mp q y hy
                unfold isPr at q1
                split at q1
                · exact ⟨_, _, rfl, (py.sub hy).sub List.mem_cons_self⟩
                · cases q1
              have l1 : ∀ {r0 r1 r2 : Option D}, lcLoop (fun _ => true) (lcTurn (.v 3) (evE (F (k + 2)) G c_has_form_1) (evE (F (k + 2)) G x_has_form_1) [r0, r1, r2, none]) xs [] h = .ok (.lst (xs.map fst)) h := by
                intro r0 r1 r2
                refine lcM (acc := []) fst fun y hy => ?_
                obtain ⟨a, b, rfl, _⟩ := pr y hy
                simp [fst]
              have hr := is_rising_ok (h := h) (k := k) (xs := xs.map fst) (fun z hz => by
                obtain ⟨y, hy, rfl⟩ := List.mem_map.mp hz
                obtain ⟨a, b, rfl, pa⟩ := pr y hy
                exact pa) (by rw [List.length_map]; exact py.len)
              cases q2 : rising (xs.map fst) <;> rw [q2] at hr <;> simp [C_has_form, is_integer_ok _ px.nf, h0, h1, e, two2, inB, bnd, q, hz, l1, items, hr, q2]
            | _ => cases q
        · simp [C_has_form, is_integer_ok _ px.nf, h0, h1, two2, inB, bnd]
      · simp [C_has_form, is_integer_ok _ px.nf, h0, two2, inB, bnd]
    | _ => simp [C_has_form, is_integer_ok _ px.nf, two2, inB]
  · have e : ((r.length : Int) + 1 + 1 + 1 == 2) = false := beq_eq_false_iff_ne.mpr (by omega)
    simp [C_has_form, e, two2]
theorem has_form_ok {w : Str} {rest : List D} (hx : P64 (.tup (.str w :: rest))) : C (k + 3) n_has_form [.tup (.str w :: rest)] h = .ok (.bl (form w rest)) h := by
  unfold form
  by_cases h1 : w = "int"
  · subst h1; rw [if_pos rfl]; exact form_int hx
  rw [if_neg h1]
  by_cases h2 : w = "free" ∨ w = "var"
  · rw [if_pos h2]; exact form_var hx h2
  rw [if_neg h2]
  by_cases h3 : w = "cell" ∨ w = "some" ∨ w = "rec"
  · rw [if_pos h3]; exact form_un hx h3
  rw [if_neg h3]
  by_cases h4 : w = "row" ∨ w = "one"
  · rw [if_pos h4]; exact form_row hx h4
  rw [if_neg h4]
  by_cases h5 : w = "room"
  · subst h5; rw [if_pos rfl]; exact form_room hx
  rw [if_neg h5]
  by_cases h6 : w = "not"
  · subst h6; rw [if_pos rfl]; exact form_not hx
  rw [if_neg h6]
  by_cases h7 : w = "to"
  · subst h7; rw [if_pos rfl]; exact form_to hx
  rw [if_neg h7]
  by_cases h8 : w = "code"
  · subst h8; rw [if_pos rfl]; exact form_code hx
  rw [if_neg h8]
  simp only [not_or] at h2 h3 h4
  have hs : PyData.strOk w = true := (hx.sub List.mem_cons_self).1
  simp [C_has_form, h1, Ne.symm h2.1, Ne.symm h2.2, Ne.symm h3.1, Ne.symm h3.2.1, Ne.symm h3.2.2, Ne.symm h4.1, Ne.symm h4.2, h5, Ne.symm h6, Ne.symm h7, Ne.symm h8, hs]
end
end K32
end

section
set_option maxRecDepth 100000
namespace K32
open PySem PV Kn
section
variable {h : Hh} {k : Nat}
theorem insides_fm {w : Str} {rest : List D} (f : Fm w rest) (hp : ∀ y ∈ rest, P64 y) : C (k + 1) n_insides [.tup (.str w :: rest)] h = .ok (.tup (inn w rest)) h := by
  have hz : ∀ {xs : List D}, D.tup xs ∈ rest → xs.length ≤ 16777215 := fun hm => Nat.le_trans (hp _ hm).len (by omega)
  cases f with
  | room xs ha hb =>
    have z := hz (xs := xs) (by simp)
    have z' : xs.length ≤ 16777216 := by omega
    have l1 : ∀ {r0 r1 r2 r3 r4 : Option D}, lcLoop (fun _ => true) (lcTurn (.tu [2, 3]) (evE (F k) G c_insides_0) (evE (F k) G x_insides_0) [r0, r1, r2, r3, r4]) xs [] h = .ok (.lst (xs.map fst)) h := by
      intro r0 r1 r2 r3 r4
      refine lcM (acc := []) fst fun y hy => ?_
      obtain ⟨a, b, rfl⟩ := isPr_eq (List.all_eq_true.mp ha y hy)
      simp [fst]
    simp [C_insides, inn, items, z', l1]
  | code n xs _ _ ha hb =>
    have z := hz (xs := xs) (by simp)
    have z' : xs.length ≤ 16777216 := by omega
    have l1 : ∀ {r0 r1 r2 r3 r4 : Option D}, lcLoop (fun _ => true) (lcTurn (.tu [4, 2]) (evE (F k) G c_insides_1) (evE (F k) G x_insides_1) [r0, r1, r2, r3, r4]) xs [] h = .ok (.lst (xs.map snd)) h := by
      intro r0 r1 r2 r3 r4
      refine lcM (acc := []) snd fun y hy => ?_
      obtain ⟨a, b, rfl⟩ := isPr_eq (List.all_eq_true.mp ha y hy)
      simp [snd]
    simp [C_insides, inn, items, z', l1]
  | to n xs l _ _ _ _ =>
    have z := hz (xs := xs) (by simp)
    simp [C_insides, inn, items, z]
  | _ => simp [C_insides, inn, items]
theorem binds_fm {w : Str} {rest : List D} (f : Fm w rest) : C (k + 1) n_binds [.tup (.str w :: rest)] h = .ok (.int (bnn w rest)) h := by
  cases f <;> simp [C_binds, bnn, numD]
def wds (ws : List Str) : List D := ws.map D.str
theorem in_ws {ws : List Str} {w : Str} (hw : ∀ x ∈ ws, PyData.strOk x = true) (hs : PyData.strOk w = true) : opCmp .nin h (.str w) (.tup (wds ws ++ [.str "free", .str "var"])) = some (!(decide (w ∈ ws) || decide (w = "free") || decide (w = "var"))) := by
  rw [nin_eq, in_tup, shp_flats (by simp [wds, D.flat]; exact hw)]
  have e : (D.str w).shp = true := by simpa using hs
  rw [e]
  have : ((wds ws ++ [D.str "free", D.str "var"]).any fun y => y.eqv (.str w)) = (decide (w ∈ ws) || decide (w = "free") || decide (w = "var")) := by
    rw [List.any_append]
    have a : ((wds ws).any fun y => y.eqv (.str w)) = decide (w ∈ ws) := by
      unfold wds
      rw [List.any_map]
      induction ws with
      | nil => rfl
      | cons a r ih =>
        rw [List.any_cons, ih fun x hx => hw x (List.mem_cons_of_mem _ hx)]
        by_cases q : a = w
        · subst q; simp
        · have q' : ¬ w = a := fun e => q e.symm
          simp [q, q']
    rw [a]
    simp [eq_comm, Bool.or_assoc]
  rw [this]; rfl
theorem wds_len (ws : List Str) : (wds ws).length = ws.length := List.length_map ..
theorem isHd_inv {d : D} (h : isHd d = true) : ∃ w rest, d = .tup (.str w :: rest) := by
  unfold isHd at h
  split at h
  · exact ⟨_, _, rfl⟩
  · cases h
theorem isK_not {ws : List Str} {f u : Int} {n : Nat} {d : D} (h : isHd d = false) : isK ws f n u d = false := by
  cases n with
  | zero => rfl
  | succ n =>
    unfold isK
    split
    · cases ‹_ = Nat.zero›
    · cases h
    · rfl
theorem isk_step {ws : List Str} {f : Int} (hw : ∀ x ∈ ws, PyData.strOk x = true) (hl : ws.length ≤ 1000) {n m : Nat} {u : Int} {d : D} (hd : P64 d)
    (ih : ∀ w rest, d = .tup (.str w :: rest) → Fm w rest → ∀ x ∈ inn w rest, ∀ u' : Int, C (m + 3) n_is_kind_below [x, .int f, .int u', .tup (wds ws)] h = .ok (.bl (isK ws f n u' x)) h) :
    C (m + 4) n_is_kind_below [d, .int f, .int u, .tup (wds ws)] h = .ok (.bl (isK ws f (n + 1) u d)) h := by
  have e1 := is_kinds_tup (k := m + 2) (h := h) (xs := [d]) (fun y hy => by rw [List.mem_singleton.mp hy]; exact hd) (by simp)
  rw [show isHds (.tup [d]) = isHd d from by simp [isHds]] at e1
  cases q : isHd d with
  | false =>
    rw [q] at e1
    rw [isK_not q]
    simp [C_is_kind_below, e1]
  | true =>
    rw [q] at e1
    obtain ⟨w, rest, rfl⟩ := isHd_inv q
    have hs : PyData.strOk w = true := (hd.sub List.mem_cons_self).1
    have e2 := in_ws (h := h) hw hs
    have hz : ws.length + 2 ≤ 16777216 := by omega
    have e3 := has_form_ok (h := h) (k := m) hd
    unfold isK
    cases q2 : (decide (w ∈ ws) || decide (w = "free") || decide (w = "var")) with
    | false =>
      rw [q2] at e2
      simp [C_is_kind_below, e1, wds_len, hz, e2]
    | true =>
      rw [q2] at e2
      cases q3 : form w rest with
      | false =>
        rw [q3] at e3
        simp [C_is_kind_below, e1, wds_len, hz, e2, e3]
      | true =>
        rw [q3] at e3
        have fm := form_fm q3
        by_cases hf : w = "free"
        · subst hf
          cases fm with
          | free n hn => simp [C_is_kind_below, e1, wds_len, hz, e2, e3, numD]
        · by_cases hv : w = "var"
          · subst hv
            cases fm with
            | var n hn => simp [C_is_kind_below, e1, wds_len, hz, e2, e3, numD]
          · have e4 := insides_fm (k := m + 2) (h := h) fm fun y hy => hd.tl.sub hy
            have e5 := binds_fm (k := m + 2) (h := h) fm
            have l1 : ∀ {r : Option D}, lcLoop (fun _ => true) (lcTurn (.v 4) (evE (F (m + 3)) G c_is_kind_below_0) (evE (F (m + 3)) G x_is_kind_below_0) [some (.tup (.str w :: rest)), some (.int f), some (.int u), some (.tup (wds ws)), r]) (inn w rest) [] h = .ok (.lst ((inn w rest).map fun x => .bl (isK ws f n (u + bnn w rest) x))) h := by
              intro r
              refine lcM (acc := []) (fun x => .bl (isK ws f n (u + bnn w rest) x)) fun y hy => ?_
              simp [e5, ih w rest rfl fm y hy]
            have hi : (inn w rest).length ≤ 16777216 := by
              have hx : ∀ {xs : List D}, D.tup xs ∈ rest → xs.length ≤ 1000000 := fun hm => (hd.tl.sub hm).len
              cases fm with
              | row xs _ => simp [inn, items]; exact Nat.le_trans (hx (xs := xs) (by simp)) (by omega)
              | one xs _ _ => simp [inn, items]; exact Nat.le_trans (hx (xs := xs) (by simp)) (by omega)
              | room xs _ _ => simp [inn, items]; exact Nat.le_trans (hx (xs := xs) (by simp)) (by omega)
              | not n xs _ _ _ => simp [inn, items]; exact Nat.le_trans (hx (xs := xs) (by simp)) (by omega)
              | to n xs l _ _ _ _ => simp [inn, items]; exact Nat.le_trans (hx (xs := xs) (by simp)) (by omega)
              | code n xs _ _ _ _ => simp [inn, items]; exact Nat.le_trans (hx (xs := xs) (by simp)) (by omega)
              | _ => simp [inn]
            simp [C_is_kind_below, e1, wds_len, hz, e2, e3, Ne.symm hf, Ne.symm hv, hf, hv, hs, e4, hi, l1, all_map (fun x => isK ws f n (u + bnn w rest) x)]
theorem isk_ok {ws : List Str} {f : Int} (hw : ∀ x ∈ ws, PyData.strOk x = true) (hl : ws.length ≤ 1000) : ∀ (n N : Nat) (u : Int) (d : D), n ≤ 64 → n ≤ N → PN n d → C (N + 4) n_is_kind_below [d, .int f, .int u, .tup (wds ws)] h = .ok (.bl (isK ws f (n + 1) u d)) h
  | 0, N, u, d, hn, _, hd => isk_step hw hl (hd.p64 hn) fun w rest e _ => by subst e; have := hd.2; simp [D.dep] at this
  | n + 1, N + 1, u, d, hn, hN, hd => isk_step (m := N + 1) hw hl (hd.p64 hn) fun w rest e fm x hx u' => isk_ok hw hl n N u' x (by omega) (by omega) (inn_sub fm (by rw [← e]; exact hd) hx)
end
end K32
end

section
set_option maxRecDepth 100000
namespace K32
open PySem PV Kn
/-! ### raised -/
section
variable {h : Hh}
theorem raise_var (m v u : Nat) : C (m + 1) n_raised [(Kd.var v).d, .int u] h = .ok (upG u false v).d h := by
  unfold upG
  by_cases hu : v < u
  · have e : ¬ u ≤ v := by omega
    simp [C_raised, Kd.d, e, hu]
  · have e : u ≤ v := by omega
    simp [C_raised, Kd.d, e, hu]
theorem raise_turns {xs ys : List D} {r0 : Option D} {mo : Int} {u m : Nat} (hb : A2 (fun x y => C (m + 1) n_raised [x, .int mo] h = .ok y h) xs ys) :
    A2 (fun x y => lcTurn (.v 3) (evE (F (m + 1)) G c_raised_0) (evE (F (m + 1)) G x_raised_0) [r0, some (.int u), some (.int mo), none] x h = .ok (some y) h) xs ys :=
  hb.imp fun x y p => by simp [p]
theorem raise_step {d : Kd} {u m : Nat} (hs : d.sm) (hl : d.leaf = false) (hb : A2 (fun x y => C (m + 1) n_raised [x, .int (u + d.bn : Nat)] h = .ok y h) d.ins (d.tri upG u)) :
    C (m + 2) n_raised [d.d, .int u] h = .ok (d.tr upG u).d h := by
  have hz : d.ins.length ≤ 16777216 := by have := ins_len d hs; omega
  have hb' := raise_turns (u := u) (r0 := some d.d) hb
  simp only [Int.natCast_add] at hb'
  simp [C_raised, idx0, nm_var hl, binds_ok, insides_ok m h d hs, hz, lcA hb', with_ok m h upG u d hs hl]
mutual
theorem raise_ok : ∀ (d : Kd) (u n : Nat), d.sm → d.dep ≤ n → C (n + 3) n_raised [d.d, .int u] h = .ok (d.tr upG u).d h
  | .int, u, n, _, _ => by simp [C_raised, C_binds, C_insides, C_with_insides, Kd.d, Kd.tr, lcLoop]
  | .free v, u, n, _, _ => by simp [C_raised, C_binds, C_insides, C_with_insides, Kd.d, Kd.tr, lcLoop, upG]
  | .var v, u, n, _, _ => raise_var (n + 2) v u
  | .un w d, u, n + 1, hs, hd => raise_step (m := n + 2) hs rfl (.cons (raise_ok d (u + w.bn) n hs (by simp [Kd.dep] at hd; omega)) .nil)
  | .mn m ks, u, n + 1, hs, hd => raise_step (m := n + 2) hs rfl (raises_ok ks (u + m.bn) n hs.2 (by simp [Kd.dep] at hd; omega))
  | .to b ks l, u, n + 1, hs, hd => raise_step (m := n + 2) hs rfl ((raises_ok ks (u + b) n hs.2.1 (by simp [Kd.dep] at hd; omega)).app (.cons (raise_ok l (u + b) n hs.2.2 (by simp [Kd.dep] at hd; omega)) .nil))
  | .un _ _, _, 0, _, hd => by simp [Kd.dep] at hd
  | .mn _ _, _, 0, _, hd => by simp [Kd.dep] at hd
  | .to _ _ _, _, 0, _, hd => by simp [Kd.dep] at hd
theorem raises_ok : ∀ (ks : Ks) (u n : Nat), ks.sm → ks.dep ≤ n → A2 (fun x y => C (n + 3) n_raised [x, .int u] h = .ok y h) ks.ds (ks.tr upG u).ds
  | .nil, u, n, _, _ => .nil
  | .cons b k r, u, n, hs, hd => .cons (raise_ok k u n hs.1 (by simp [Ks.dep] at hd; omega)) (raises_ok r u n hs.2 (by simp [Ks.dep] at hd; omega))
end
/-! ### hidden_pairs -/
theorem hid_turns {xs ys : List D} {r0 r1 r3 r4 : Option D} {m : Nat} (hb : A2 (fun x y => C m n_hidden_pairs [x] h = .ok y h) xs ys) :
    A2 (fun x y => lcTurn (.v 2) (evE (F m) G c_hidden_pairs_0) (evE (F m) G x_hidden_pairs_0) [r0, r1, none, r3, r4] x h = .ok (some y) h) xs ys := hb.imp fun x y p => by simp [p]
theorem up_turns {xs ys : List D} {r0 r1 r4 : Option D} {m n : Nat} (hb : A2 (fun x y => C m n_raised [x, .int n] h = .ok y h) xs ys) :
    A2 (fun x y => lcTurn (.v 2) (evE (F m) G c_hidden_pairs_1) (evE (F m) G x_hidden_pairs_1) [r0, r1, none, some (.int n), r4] x h = .ok (some y) h) xs ys := hb.imp fun x y p => by simp [p]
mutual
theorem hid_ok {Fr : Nat} : ∀ (k : Kd) (u n : Nat), k.ok TW Fr u → k.tw → 3 * k.dep ≤ n → C (n + 4) n_hidden_pairs [k.d] h = .ok k.cl.d h
  | .int, u, n, _, _, _ => by simp [C_hidden_pairs, C_insides, C_with_insides, Kd.d, Kd.cl, lcLoop]
  | .free v, u, n, _, _, _ => by simp [C_hidden_pairs, C_insides, C_with_insides, Kd.d, Kd.cl, lcLoop]
  | .var v, u, n, _, _, _ => by simp [C_hidden_pairs, C_insides, C_with_insides, Kd.d, Kd.cl, lcLoop]
  | .un w k, u, n + 1, ho, hs, hd => by
    have ih := hid_ok k (u + w.bn) n ho.2.2 hs (by simp [Kd.dep] at hd; omega)
    have hi := insides_ok (n + 3) h (.un w k) (tw_sm _ hs)
    have l := lcA (acc := []) (hid_turns (r0 := some (Kd.un w k).d) (r1 := none) (r3 := none) (r4 := none) (A2.cons (P := fun x y => C (n + 4) n_hidden_pairs [x] h = .ok y h) ih .nil))
    cases w <;> simp only [Kd.d, Kd.ins, Un.nm] at hi l <;> simp [C_hidden_pairs, C_with_insides, Kd.d, Kd.cl, hi, l]
  | .mn w ks, u, n + 1, ho, hs, hd => by
    have ih := hids_ok ks (u + w.bn) n ho.2.2.2 hs.2 (by simp [Kd.dep] at hd; omega)
    have hi := insides_ok (n + 3) h (.mn w ks) (tw_sm _ hs)
    have l := lcA (acc := []) (hid_turns (r0 := some (Kd.mn w ks).d) (r1 := none) (r3 := none) (r4 := none) ih)
    have hz : ks.len ≤ 16777216 := by have := hs.1; omega
    have h1 := ho.1
    cases w with
    | row => simp only [Kd.d, Kd.ins] at hi l; simp [C_hidden_pairs, C_with_insides, Kd.d, Kd.cl, hi, l, hz]
    | one => simp only [Kd.d, Kd.ins] at hi l; simp [C_hidden_pairs, C_with_insides, Kd.d, Kd.cl, hi, l, hz]
    | room => simp [TW] at h1
    | code b => simp [TW] at h1
    | not b =>
      have hz1 : ks.len ≤ 16777215 := by have := hs.1; omega
      have up := raises_ok (h := h) ks.cls b (n + 1) (tws_cl ks hs.2) (by have := cls_dep ks; simp [Kd.dep] at hd; omega)
      have l2 := fun r1 r4 => lcA (acc := []) (up_turns (r0 := some (Kd.mn (.not b) ks).d) (r1 := r1) (r4 := r4) up)
      simp only [Kd.d, Kd.ins] at hi l l2
      simp [C_hidden_pairs, Kd.d, Ks.ds, Kd.cl, hi, l, l2, hz, hz1]
      omega
  | .to b ks l, u, n + 1, ho, _, _ => by have h1 := ho.1; simp [TW] at h1
  | .un _ _, _, 0, _, _, hd => by simp [Kd.dep] at hd
  | .mn _ _, _, 0, _, _, hd => by simp [Kd.dep] at hd
  | .to _ _ _, _, 0, _, _, hd => by simp [Kd.dep] at hd
theorem hids_ok {Fr : Nat} : ∀ (ks : Ks) (u n : Nat), ks.ok TW Fr u → ks.tw → 3 * ks.dep ≤ n → A2 (fun x y => C (n + 4) n_hidden_pairs [x] h = .ok y h) ks.ds ks.cls.ds
  | .nil, u, n, _, _, _ => .nil
  | .cons b k r, u, n, ho, hs, hd => .cons (hid_ok k u n ho.1 hs.1 (by simp [Ks.dep] at hd; omega)) (hids_ok r u n ho.2 hs.2 (by simp [Ks.dep] at hd; omega))
end
/-! ### closed_kind -/
def EL : Nat := 10 ^ 91
theorem EL_int : ((EL : Nat) : Int) = 10000000000000000000000000000000000000000000000000000000000000000000000000000000000000000000 := by decide +kernel
theorem tw_strs : ∀ x ∈ TW, PyData.strOk x = true := by simp [TW]
theorem is_kind_ok (N : Nat) {d : D} {dp : Nat} (hd : PN dp d) (h64 : dp ≤ 64) (hN : dp ≤ N) : C (N + 5) n_is_kind [.int 10000000000000000000000000000000000000000000000000000000000000000000000000000000000000000000, d, .tup [.str "cell", .str "int", .str "not", .str "one", .str "rec", .str "row", .str "some"]] h = .ok (.bl (isK TW (EL : Int) (dp + 1) 0 d)) h := by
  have e := isk_ok (h := h) (f := (EL : Int)) tw_strs (by simp [TW]) dp N 0 d h64 hN hd
  have w : wds TW = [.str "cell", .str "int", .str "not", .str "one", .str "rec", .str "row", .str "some"] := rfl
  rw [EL_int, w] at e
  rw [EL_int]
  generalize isK TW _ (dp + 1) 0 d = r at e ⊢
  simp [C_is_kind, e]
theorem kd_pw {f u : Nat} {k : Kd} (h : k.ok TW f u) (hs : k.tw) {n : Nat} (hd : k.dw ≤ n) : PN n k.d := ⟨kd_pl h (tw_sm k hs), by rw [dw_eq k (tw_nr h)]; exact hd⟩
theorem closed_ok {k : Kd} {Fr : Nat} (ok : k.ok TW Fr 0) (tw : k.tw) (hf : Fr ≤ EL) (hd : k.dw ≤ 64) (N : Nat) (hN : 192 ≤ N) : C (N + 6) n_closed_kind [k.d] h = .ok k.cl.d h := by
  have p := kd_pw ok tw (Nat.le_refl k.dw)
  have e := is_kind_ok (h := h) N p hd (by omega)
  have dd := dep_dw k
  have t : isK TW (EL : Int) (k.dw + 1) ((0 : Nat) : Int) k.d = true := isK_kd k 0 _ (ok_le k ok hf (Nat.le_refl _)) (by omega)
  simp only [Int.natCast_zero] at t
  rw [t] at e
  have e2 := hid_ok (h := h) k 0 (N + 1) ok tw (by omega)
  simp [C_closed_kind, e, e2]
theorem non_exc (c : Str) : (D.exc c).isNon = false := id rfl
theorem non_non : D.non.isNon = true := id rfl
theorem refused_ok {d : D} {dp : Nat} (hd : PN dp d) (h64 : dp ≤ 64) (N : Nat) (hN : dp ≤ N) (hk : isK TW (EL : Int) (dp + 1) 0 d = false) : C (N + 7) n__law_refused [d] h = .ok (.str "kind") h := by
  have e := is_kind_ok (h := h) N hd h64 hN
  rw [hk] at e
  have e2 : C (N + 6) n_closed_kind [d] h = .err ⟨"InvalidKind", none⟩ h := by simp [C_closed_kind, e]
  simp [C__law_refused, e2, isxOp, non_exc]
theorem taken_ok {k : Kd} {Fr : Nat} (ok : k.ok TW Fr 0) (tw : k.tw) (hf : Fr ≤ EL) (hd : k.dw ≤ 64) (N : Nat) (hN : 192 ≤ N) : C (N + 7) n__law_refused [k.d] h = .ok (.str "") h := by
  simp [C__law_refused, closed_ok (h := h) ok tw hf hd N hN, non_non]
end
end K32
end

section
set_option maxRecDepth 100000
namespace K32
open PySem PV Kn
mutual
/-- kinds in turns, by shape -/
def Kd.tk : Kd → Prop
  | .un _ k => Kd.tk k
  | .mn .room _ => False
  | .mn (.code _) _ => False
  | .mn _ ks => Ks.tk ks
  | .to _ _ _ => False
  | _ => True
def Ks.tk : Ks → Prop
  | .nil => True
  | .cons _ k r => Kd.tk k ∧ Ks.tk r
end
mutual
theorem ok_tk {F : Nat} : ∀ (k : Kd) {u : Nat}, k.ok TW F u → Kd.tk k
  | .int, _, _ => trivial
  | .free _, _, _ => trivial
  | .var _, _, _ => trivial
  | .un w k, _, h => ok_tk k h.2.2
  | .mn .row ks, u, h => oks_tk ks h.2.2.2
  | .mn .one ks, u, h => oks_tk ks h.2.2.2
  | .mn (.not n) ks, u, h => oks_tk ks h.2.2.2
  | .mn .room ks, u, h => absurd h.1 (by simp [TW])
  | .mn (.code n) ks, u, h => absurd h.1 (by simp [TW])
  | .to n ks l, _, h => absurd h.1 (by simp [TW])
theorem oks_tk {F : Nat} : ∀ (ks : Ks) {u : Nat}, ks.ok TW F u → Ks.tk ks
  | .nil, _, _ => trivial
  | .cons b k r, _, h => ⟨ok_tk k h.1, oks_tk r h.2⟩
end
mutual
theorem tr_tk {g : Leaf} (hg : ∀ v f n, Kd.tk (g v f n)) : ∀ (k : Kd) (u : Nat), Kd.tk k → Kd.tk (k.tr g u)
  | .int, u, _ => trivial
  | .free n, u, _ => hg u true n
  | .var n, u, _ => hg u false n
  | .un w k, u, h => tr_tk hg k _ h
  | .mn .row ks, u, h => trs_tk hg ks _ h
  | .mn .one ks, u, h => trs_tk hg ks _ h
  | .mn (.not n) ks, u, h => trs_tk hg ks _ h
  | .mn .room ks, u, h => h.elim
  | .mn (.code n) ks, u, h => h.elim
  | .to n ks l, u, h => h.elim
theorem trs_tk {g : Leaf} (hg : ∀ v f n, Kd.tk (g v f n)) : ∀ (ks : Ks) (u : Nat), Ks.tk ks → Ks.tk (ks.tr g u)
  | .nil, u, _ => trivial
  | .cons b k r, u, h => ⟨tr_tk hg k u h.1, trs_tk hg r u h.2⟩
end
mutual
theorem tk_lay : ∀ k : Kd, Kd.tk k → k.d.lay = true
  | .int, _ => by simp [Kd.d, D.lay, D.lays]
  | .free _, _ => by simp [Kd.d, D.lay, D.lays]
  | .var _, _ => by simp [Kd.d, D.lay, D.lays]
  | .un w k, h => by have := tk_lay k h; cases w <;> simp [Kd.d, D.lay, D.lays, this]
  | .mn .row ks, h => by have := tks_lay ks h; simp [Kd.d, D.lay, D.lays, this]
  | .mn .one ks, h => by have := tks_lay ks h; simp [Kd.d, D.lay, D.lays, this]
  | .mn (.not n) ks, h => by have := tks_lay ks h; simp [Kd.d, D.lay, D.lays, this]
  | .mn .room ks, h => h.elim
  | .mn (.code n) ks, h => h.elim
  | .to n ks l, h => h.elim
theorem tks_lay : ∀ k : Ks, Ks.tk k → D.lays k.ds = true
  | .nil, _ => rfl
  | .cons b k r, h => by show (k.d.lay && D.lays r.ds) = true; rw [tk_lay k h.1, tks_lay r h.2]; rfl
end
theorem putG_tk {ss : List Kd} (hs : ∀ s ∈ ss, Kd.tk s) (v : Nat) (f : Bool) (n : Nat) : Kd.tk (putG ss v f n) := by
  unfold putG
  split
  · trivial
  · split
    · trivial
    · cases e : ss[n - v]? with
      | none => trivial
      | some k => exact hs k (List.mem_of_getElem? e)
theorem upG_tk (v : Nat) (f : Bool) (n : Nat) : Kd.tk (upG v f n) := by
  unfold upG
  split
  · trivial
  · split <;> trivial
/-- the law's shut -/
def shG (first : Nat) : Leaf := fun u f n => if f then (if first ≤ n then .var (u + n - first) else .free n) else .var n
theorem shG_tk (a v : Nat) (f : Bool) (n : Nat) : Kd.tk (shG a v f n) := by
  unfold shG
  split
  · split <;> trivial
  · trivial
section
variable {h : Hh}
theorem in_lstT (x : D) (ys : List D) : opCmp .inn h x (.lst ys) = opCmp .inn h x (.tup ys) := id rfl
theorem nin_lstT (x : D) (ys : List D) : opCmp .nin h x (.lst ys) = opCmp .nin h x (.tup ys) := id rfl
theorem ne_nilL {ds : List D} (hl : D.lays ds = true) : opCmp .ne h (.lst ds) (.lst []) = some (!ds.isEmpty) := by
  show Option.map _ (if D.cok (D.lst ds) (D.lst []) then some ((D.lst ds).eqv (.lst [])) else none) = _
  rw [cok_min (a := .lst ds) (b := .lst []) hl rfl (by show min _ 1 ≤ 64; omega)]
  cases ds <;> rfl
theorem list_tupO (xs : List D) : opBf .list h [.tup xs] = some (.lst xs) := id rfl
theorem tuple_lstO (xs : List D) : opBf .tuple h [.lst xs] = some (.tup xs) := id rfl
theorem lin_ok (m : Nat) (k : Kd) (hk : Kd.tk k) : C (m + 1) n__law_in [k.d] h = .ok (.tup [.lst k.ins, .int k.bn]) h := by
  cases k with
  | un w k => cases w <;> simp [C__law_in, Kd.d, Kd.ins, Kd.bn, in_lstT]
  | mn w ks => cases w <;> first | exact hk.elim | simp [C__law_in, Kd.d, Kd.ins, Kd.bn, in_lstT, list_tupO]
  | to n ks l => exact hk.elim
  | _ => simp [C__law_in, Kd.d, Kd.ins, Kd.bn, in_lstT]
theorem lwith_ok (m : Nat) (k : Kd) (hk : Kd.tk k) (g : Leaf) (v : Nat) (hl : D.lays (k.ini g v) = true) : C (m + 1) n__law_with [k.d, .lst (k.ini g v)] h = .ok (k.inn g v).d h := by
  cases k with
  | un w k =>
    have e := ne_nilL (h := h) hl
    simp only [Kd.ini] at e
    cases w <;> simp [C__law_with, Kd.d, Kd.ini, Kd.inn, in_lstT, e]
  | mn w ks => cases w <;> first | exact hk.elim | simp [C__law_with, Kd.d, Kd.ini, Kd.inn, in_lstT, tuple_lstO]
  | to n ks l => exact hk.elim
  | _ =>
    have e := ne_nilL (h := h) (ds := []) rfl
    simp [C__law_with, Kd.d, Kd.ini, Kd.inn, in_lstT, e]
theorem ini_lay {g : Leaf} (hg : ∀ v f n, Kd.tk (g v f n)) (v : Nat) (k : Kd) (hk : Kd.tk k) : D.lays (k.ini g v) = true := by
  cases k with
  | un w k => show ((k.tr g v).d.lay && true) = true; rw [tk_lay _ (tr_tk hg k v hk)]; rfl
  | mn w ks => cases w <;> first | exact hk.elim | exact tks_lay _ (trs_tk hg ks v hk)
  | to n ks l => exact hk.elim
  | _ => rfl
theorem tri_ini' (g : Leaf) (u : Nat) (d : Kd) : d.tri g u = d.ini g (u + d.bn) := tri_ini g u d
/-! ### _law_put -/
variable {ss : List Kd}
def seqK (l : Bool) (ss : List Kd) : D := if l then .lst (kds ss) else .tup (kds ss)
theorem lput_turns {xs ys : List D} {r0 r3 r4 : Option D} {u b : Int} {ks : D} {m : Nat} (hb : A2 (fun x y => C m n__law_put [x, .int (u + b), ks] h = .ok y h) xs ys) :
    A2 (fun x y => lcTurn (.v 6) (evE (F m) G c__law_put_0) (evE (F m) G x__law_put_0) [r0, some (.int u), some ks, r3, r4, some (.int b), none] x h = .ok (some y) h) xs ys := hb.imp fun x y p => by simp [p]
theorem put2 {i j : Nat} {x y : D} {ρ : PV.Env} : (Tg.tu [i, j]).put (.tup [x, y]) ρ = some ((ρ.set i (some x)).set j (some y)) := id rfl
theorem rsopt {ρ : PV.Env} {h : Hh} : RS.opt (some ρ) h = .nxt ρ h := id rfl
theorem lput_step {d : Kd} {u m : Nat} {ks : D} (hs : d.sm) (hk : Kd.tk d) (hl : (Kd.nm d = Str.ofString "var") = False) (hg : ∀ s ∈ ss, Kd.tk s) (hb : A2 (fun x y => C (m + 1) n__law_put [x, .int (u + d.bn : Nat), ks] h = .ok y h) d.ins (d.tri (putG ss) u)) :
    C (m + 2) n__law_put [d.d, .int u, ks] h = .ok (d.inn (putG ss) (u + d.bn)).d h := by
  have hz : d.ins.length ≤ 16777216 := by have := ins_len d hs; omega
  simp only [Int.natCast_add] at hb
  have hb' := lput_turns (r0 := some d.d) (r3 := none) (r4 := some (.lst d.ins)) hb
  rw [tri_ini] at hb'
  have w := lwith_ok (h := h) m d hk (putG ss) (u + d.bn) (ini_lay (putG_tk hg) _ d hk)
  simp [C__law_put, idx0, hl, lin_ok m d hk, put2, rsopt, hz, lcA hb', w]
theorem lput_var (m v u : Nat) (l : Bool) : C (m + 1) n__law_put [(Kd.var v).d, .int u, seqK l ss] h = .ok (putG ss u false v).d h := by
  unfold putG seqK
  by_cases hu : v < u
  · have e : (v : Int) - (u : Int) < 0 := by omega
    simp [C__law_put, Kd.d, e, hu]
  · have e : ¬ (v : Int) - (u : Int) < 0 := by omega
    by_cases hc : v - u < ss.length
    · have e2 : (v : Int) - (u : Int) < (ss.length : Int) := by omega
      have e3 := kds_at hc
      rw [← sub_nat (by omega)] at e3
      cases l <;> simp [C__law_put, Kd.d, e, hu, e2, e3, hc]
    · have e2 : ¬ (v : Int) - (u : Int) < (ss.length : Int) := by omega
      have e3 : (v : Int) - (ss.length : Int) = ((v - ss.length : Nat) : Int) := sub_nat (by omega)
      have e4 : ss[v - u]? = none := List.getElem?_eq_none (by omega)
      cases l <;> simp [C__law_put, Kd.d, e, hu, e2, e4, e3]
mutual
theorem lput_ok (l : Bool) (hg : ∀ s ∈ ss, Kd.tk s) : ∀ (d : Kd) (u n : Nat), Kd.tk d → d.sm → d.dep ≤ n → C (n + 2) n__law_put [d.d, .int u, seqK l ss] h = .ok (d.tr (putG ss) u).d h
  | .int, u, n, hk, _, _ => lput_step (m := n) (d := .int) trivial hk (by simp [Kd.nm]) hg .nil
  | .free v, u, n, hk, _, _ => lput_step (m := n) (d := .free v) trivial hk (by simp [Kd.nm]) hg .nil
  | .var v, u, n, _, _, _ => lput_var (n + 1) v u l
  | .un w d, u, n + 1, hk, hs, hd => lput_step (m := n + 1) hs hk (nm_var rfl) hg (.cons (lput_ok l hg d (u + w.bn) n hk hs (by simp [Kd.dep] at hd; omega)) .nil)
  | .mn .row ks, u, n + 1, hk, hs, hd => lput_step (m := n + 1) hs hk (nm_var rfl) hg (lputs_ok l hg ks u n hk hs.2 (by simp [Kd.dep] at hd; omega))
  | .mn .one ks, u, n + 1, hk, hs, hd => lput_step (m := n + 1) hs hk (nm_var rfl) hg (lputs_ok l hg ks u n hk hs.2 (by simp [Kd.dep] at hd; omega))
  | .mn (.not b) ks, u, n + 1, hk, hs, hd => lput_step (m := n + 1) hs hk (nm_var rfl) hg (lputs_ok l hg ks (u + b) n hk hs.2 (by simp [Kd.dep] at hd; omega))
  | .mn .room ks, _, _, hk, _, _ => hk.elim
  | .mn (.code n) ks, _, _, hk, _, _ => hk.elim
  | .to b ks l, _, _, hk, _, _ => hk.elim
  | .un _ _, _, 0, _, _, hd => by simp [Kd.dep] at hd
  | .mn .row _, _, 0, _, _, hd => by simp [Kd.dep] at hd
  | .mn .one _, _, 0, _, _, hd => by simp [Kd.dep] at hd
  | .mn (.not _) _, _, 0, _, _, hd => by simp [Kd.dep] at hd
theorem lputs_ok (l : Bool) (hg : ∀ s ∈ ss, Kd.tk s) : ∀ (ks : Ks) (u n : Nat), Ks.tk ks → ks.sm → ks.dep ≤ n → A2 (fun x y => C (n + 2) n__law_put [x, .int u, seqK l ss] h = .ok y h) ks.ds (ks.tr (putG ss) u).ds
  | .nil, u, n, _, _, _ => .nil
  | .cons b k r, u, n, hk, hs, hd => .cons (lput_ok l hg k u n hk.1 hs.1 (by simp [Ks.dep] at hd; omega)) (lputs_ok l hg r u n hk.2 hs.2 (by simp [Ks.dep] at hd; omega))
end
/-! ### _law_up -/
theorem lup_turns {xs ys : List D} {r0 r2 : Option D} {u b : Int} {m : Nat} (hb : A2 (fun x y => C m n__law_up [x, .int (u + b)] h = .ok y h) xs ys) :
    A2 (fun x y => lcTurn (.v 4) (evE (F m) G c__law_up_0) (evE (F m) G x__law_up_0) [r0, some (.int u), r2, some (.int b), none] x h = .ok (some y) h) xs ys := hb.imp fun x y p => by simp [p]
theorem lup_step {d : Kd} {u m : Nat} (hs : d.sm) (hk : Kd.tk d) (hl : (Kd.nm d = Str.ofString "var") = False) (hb : A2 (fun x y => C (m + 1) n__law_up [x, .int (u + d.bn : Nat)] h = .ok y h) d.ins (d.tri upG u)) :
    C (m + 2) n__law_up [d.d, .int u] h = .ok (d.inn upG (u + d.bn)).d h := by
  have hz : d.ins.length ≤ 16777216 := by have := ins_len d hs; omega
  simp only [Int.natCast_add] at hb
  have hb' := lup_turns (r0 := some d.d) (r2 := some (.lst d.ins)) hb
  rw [tri_ini] at hb'
  have w := lwith_ok (h := h) m d hk upG (u + d.bn) (ini_lay upG_tk _ d hk)
  simp [C__law_up, idx0, hl, lin_ok m d hk, put2, rsopt, hz, lcA hb', w]
theorem lup_var (m v u : Nat) : C (m + 1) n__law_up [(Kd.var v).d, .int u] h = .ok (upG u false v).d h := by
  unfold upG
  by_cases hu : v < u
  · have e : ¬ u ≤ v := by omega
    simp [C__law_up, Kd.d, e, hu]
  · have e : u ≤ v := by omega
    simp [C__law_up, Kd.d, e, hu]
mutual
theorem lup_ok : ∀ (d : Kd) (u n : Nat), Kd.tk d → d.sm → d.dep ≤ n → C (n + 2) n__law_up [d.d, .int u] h = .ok (d.tr upG u).d h
  | .int, u, n, hk, _, _ => lup_step (m := n) (d := .int) trivial hk (by simp [Kd.nm]) .nil
  | .free v, u, n, hk, _, _ => lup_step (m := n) (d := .free v) trivial hk (by simp [Kd.nm]) .nil
  | .var v, u, n, _, _, _ => lup_var (n + 1) v u
  | .un w d, u, n + 1, hk, hs, hd => lup_step (m := n + 1) hs hk (nm_var rfl) (.cons (lup_ok d (u + w.bn) n hk hs (by simp [Kd.dep] at hd; omega)) .nil)
  | .mn .row ks, u, n + 1, hk, hs, hd => lup_step (m := n + 1) hs hk (nm_var rfl) (lups_ok ks u n hk hs.2 (by simp [Kd.dep] at hd; omega))
  | .mn .one ks, u, n + 1, hk, hs, hd => lup_step (m := n + 1) hs hk (nm_var rfl) (lups_ok ks u n hk hs.2 (by simp [Kd.dep] at hd; omega))
  | .mn (.not b) ks, u, n + 1, hk, hs, hd => lup_step (m := n + 1) hs hk (nm_var rfl) (lups_ok ks (u + b) n hk hs.2 (by simp [Kd.dep] at hd; omega))
  | .mn .room ks, _, _, hk, _, _ => hk.elim
  | .mn (.code n) ks, _, _, hk, _, _ => hk.elim
  | .to b ks l, _, _, hk, _, _ => hk.elim
  | .un _ _, _, 0, _, _, hd => by simp [Kd.dep] at hd
  | .mn .row _, _, 0, _, _, hd => by simp [Kd.dep] at hd
  | .mn .one _, _, 0, _, _, hd => by simp [Kd.dep] at hd
  | .mn (.not _) _, _, 0, _, _, hd => by simp [Kd.dep] at hd
theorem lups_ok : ∀ (ks : Ks) (u n : Nat), Ks.tk ks → ks.sm → ks.dep ≤ n → A2 (fun x y => C (n + 2) n__law_up [x, .int u] h = .ok y h) ks.ds (ks.tr upG u).ds
  | .nil, u, n, _, _, _ => .nil
  | .cons b k r, u, n, hk, hs, hd => .cons (lup_ok k u n hk.1 hs.1 (by simp [Ks.dep] at hd; omega)) (lups_ok r u n hk.2 hs.2 (by simp [Ks.dep] at hd; omega))
end
/-! ### _law_shut -/
variable {a : Nat}
theorem lsh_turns {xs ys : List D} {r0 r3 : Option D} {u b fi : Int} {m : Nat} (hb : A2 (fun x y => C m n__law_shut [x, .int (u + b), .int fi] h = .ok y h) xs ys) :
    A2 (fun x y => lcTurn (.v 5) (evE (F m) G c__law_shut_0) (evE (F m) G x__law_shut_0) [r0, some (.int u), some (.int fi), r3, some (.int b), none] x h = .ok (some y) h) xs ys := hb.imp fun x y p => by simp [p]
theorem lsh_step {d : Kd} {u m : Nat} (hs : d.sm) (hk : Kd.tk d) (hl : (Kd.nm d = Str.ofString "free") = False) (hb : A2 (fun x y => C (m + 1) n__law_shut [x, .int (u + d.bn : Nat), .int a] h = .ok y h) d.ins (d.tri (shG a) u)) :
    C (m + 2) n__law_shut [d.d, .int u, .int a] h = .ok (d.inn (shG a) (u + d.bn)).d h := by
  have hz : d.ins.length ≤ 16777216 := by have := ins_len d hs; omega
  simp only [Int.natCast_add] at hb
  have hb' := lsh_turns (r0 := some d.d) (r3 := some (.lst d.ins)) hb
  rw [tri_ini] at hb'
  have w := lwith_ok (h := h) m d hk (shG a) (u + d.bn) (ini_lay (shG_tk a) _ d hk)
  simp [C__law_shut, idx0, hl, lin_ok m d hk, put2, rsopt, hz, lcA hb', w]
theorem lsh_free (m v u : Nat) : C (m + 1) n__law_shut [(Kd.free v).d, .int u, .int a] h = .ok (shG a u true v).d h := by
  unfold shG
  by_cases hu : a ≤ v
  · have e : (u : Int) + (v : Int) - (a : Int) = ((u + v - a : Nat) : Int) := by omega
    simp [C__law_shut, Kd.d, hu, e]
  · simp [C__law_shut, Kd.d, hu]
mutual
theorem lsh_ok : ∀ (d : Kd) (u n : Nat), Kd.tk d → d.sm → d.dep ≤ n → C (n + 2) n__law_shut [d.d, .int u, .int a] h = .ok (d.tr (shG a) u).d h
  | .int, u, n, hk, _, _ => lsh_step (m := n) (d := .int) trivial hk (by simp [Kd.nm]) .nil
  | .var v, u, n, hk, _, _ => lsh_step (m := n) (d := .var v) trivial hk (by simp [Kd.nm]) .nil
  | .free v, u, n, _, _, _ => lsh_free (n + 1) v u
  | .un w d, u, n + 1, hk, hs, hd => lsh_step (m := n + 1) hs hk (nm_free rfl) (.cons (lsh_ok d (u + w.bn) n hk hs (by simp [Kd.dep] at hd; omega)) .nil)
  | .mn .row ks, u, n + 1, hk, hs, hd => lsh_step (m := n + 1) hs hk (nm_free rfl) (lshs_ok ks u n hk hs.2 (by simp [Kd.dep] at hd; omega))
  | .mn .one ks, u, n + 1, hk, hs, hd => lsh_step (m := n + 1) hs hk (nm_free rfl) (lshs_ok ks u n hk hs.2 (by simp [Kd.dep] at hd; omega))
  | .mn (.not b) ks, u, n + 1, hk, hs, hd => lsh_step (m := n + 1) hs hk (nm_free rfl) (lshs_ok ks (u + b) n hk hs.2 (by simp [Kd.dep] at hd; omega))
  | .mn .room ks, _, _, hk, _, _ => hk.elim
  | .mn (.code n) ks, _, _, hk, _, _ => hk.elim
  | .to b ks l, _, _, hk, _, _ => hk.elim
  | .un _ _, _, 0, _, _, hd => by simp [Kd.dep] at hd
  | .mn .row _, _, 0, _, _, hd => by simp [Kd.dep] at hd
  | .mn .one _, _, 0, _, _, hd => by simp [Kd.dep] at hd
  | .mn (.not _) _, _, 0, _, _, hd => by simp [Kd.dep] at hd
theorem lshs_ok : ∀ (ks : Ks) (u n : Nat), Ks.tk ks → ks.sm → ks.dep ≤ n → A2 (fun x y => C (n + 2) n__law_shut [x, .int u, .int a] h = .ok y h) ks.ds (ks.tr (shG a) u).ds
  | .nil, u, n, _, _, _ => .nil
  | .cons b k r, u, n, hk, hs, hd => .cons (lsh_ok k u n hk.1 hs.1 (by simp [Ks.dep] at hd; omega)) (lshs_ok r u n hk.2 hs.2 (by simp [Ks.dep] at hd; omega))
end
/-! ### _law_closed -/
theorem lcl_turns {xs ys : List D} {r0 r1 r2 r4 : Option D} {m : Nat} (hb : A2 (fun x y => C m n__law_closed [x] h = .ok y h) xs ys) :
    A2 (fun x y => lcTurn (.v 3) (evE (F m) G c__law_closed_0) (evE (F m) G x__law_closed_0) [r0, r1, r2, none, r4] x h = .ok (some y) h) xs ys := hb.imp fun x y p => by simp [p]
theorem lcl_ups {xs ys : List D} {r0 r1 r4 : Option D} {m n : Nat} (hb : A2 (fun x y => C m n__law_up [x, .int n] h = .ok y h) xs ys) :
    A2 (fun x y => lcTurn (.v 3) (evE (F m) G c__law_closed_1) (evE (F m) G x__law_closed_1) [r0, r1, some (.int n), none, r4] x h = .ok (some y) h) xs ys := hb.imp fun x y p => by simp [p]
mutual
theorem lcl_ok {Fr : Nat} : ∀ (k : Kd) (u n : Nat), k.ok TW Fr u → k.tw → 3 * k.dep ≤ n → C (n + 3) n__law_closed [k.d] h = .ok k.cl.d h
  | .int, u, n, _, _, _ => by
    have e := lin_ok (h := h) (n + 1) .int trivial
    simp only [Kd.d, Kd.ins, Kd.bn] at e
    have e2 := ne_nilL (h := h) (ds := []) rfl
    simp [C__law_closed, C__law_with, Kd.d, Kd.cl, e, e2, lcLoop, put2, rsopt, in_lstT]
  | .free v, u, n, _, _, _ => by
    have e := lin_ok (h := h) (n + 1) (.free v) trivial
    simp only [Kd.d, Kd.ins, Kd.bn] at e
    have e2 := ne_nilL (h := h) (ds := []) rfl
    simp [C__law_closed, C__law_with, Kd.d, Kd.cl, e, e2, lcLoop, put2, rsopt, in_lstT]
  | .var v, u, n, _, _, _ => by
    have e := lin_ok (h := h) (n + 1) (.var v) trivial
    simp only [Kd.d, Kd.ins, Kd.bn] at e
    have e2 := ne_nilL (h := h) (ds := []) rfl
    simp [C__law_closed, C__law_with, Kd.d, Kd.cl, e, e2, lcLoop, put2, rsopt, in_lstT]
  | .un w k, u, n + 1, ho, hs, hd => by
    have ih := lcl_ok k (u + w.bn) n ho.2.2 hs (by simp [Kd.dep] at hd; omega)
    have hi := lin_ok (h := h) (n + 2) (.un w k) (ok_tk _ ho)
    have l := fun r1 r2 => lcA (acc := []) (lcl_turns (r0 := some (Kd.un w k).d) (r1 := r1) (r2 := r2) (r4 := none) (A2.cons (P := fun x y => C (n + 3) n__law_closed [x] h = .ok y h) ih .nil))
    have e2 := ne_nilL (h := h) (ds := [k.cl.d]) (by show (k.cl.d.lay && true) = true; rw [tk_lay _ (ok_tk _ (cl_ok k ho.2.2))]; rfl)
    cases w <;> simp only [Kd.d, Kd.ins, Kd.bn, Un.nm, Un.bn] at hi l <;> simp [C__law_closed, C__law_with, Kd.d, Kd.cl, hi, l, put2, rsopt, in_lstT, e2]
  | .mn w ks, u, n + 1, ho, hs, hd => by
    have ih := lcls_ok ks (u + w.bn) n ho.2.2.2 hs.2 (by simp [Kd.dep] at hd; omega)
    have hi := lin_ok (h := h) (n + 2) (.mn w ks) (ok_tk _ ho)
    have l := fun r1 r2 => lcA (acc := []) (lcl_turns (r0 := some (Kd.mn w ks).d) (r1 := r1) (r2 := r2) (r4 := none) ih)
    have hz : ks.len ≤ 16777216 := by have := hs.1; omega
    have h1 := ho.1
    cases w with
    | row => simp only [Kd.d, Kd.ins, Kd.bn, Mn.bn] at hi l; simp [C__law_closed, C__law_with, Kd.d, Kd.cl, hi, l, hz, put2, rsopt, in_lstT, tuple_lstO]
    | one => simp only [Kd.d, Kd.ins, Kd.bn, Mn.bn] at hi l; simp [C__law_closed, C__law_with, Kd.d, Kd.cl, hi, l, hz, put2, rsopt, in_lstT, tuple_lstO]
    | room => simp [TW] at h1
    | code b => simp [TW] at h1
    | not b =>
      have hz1 : 1 + ks.len ≤ 16777216 := by have := hs.1; omega
      have up := lups_ok (h := h) ks.cls b (n + 1) (oks_tk _ (cls_ok ks ho.2.2.2)) (tws_cl ks hs.2) (by have := cls_dep ks; simp [Kd.dep] at hd; omega)
      have l2 := fun r1 r4 => lcA (acc := []) (lcl_ups (r0 := some (Kd.mn (.not b) ks).d) (r1 := r1) (r4 := r4) up)
      simp only [Kd.d, Kd.ins, Kd.bn, Mn.bn] at hi l l2
      simp [C__law_closed, Kd.d, Ks.ds, Kd.cl, hi, l, l2, hz, hz1, put2, rsopt, tuple_lstO]
  | .to b ks l, u, n + 1, ho, _, _ => by have h1 := ho.1; simp [TW] at h1
  | .un _ _, _, 0, _, _, hd => by simp [Kd.dep] at hd
  | .mn _ _, _, 0, _, _, hd => by simp [Kd.dep] at hd
  | .to _ _ _, _, 0, _, _, hd => by simp [Kd.dep] at hd
theorem lcls_ok {Fr : Nat} : ∀ (ks : Ks) (u n : Nat), ks.ok TW Fr u → ks.tw → 3 * ks.dep ≤ n → A2 (fun x y => C (n + 3) n__law_closed [x] h = .ok y h) ks.ds ks.cls.ds
  | .nil, u, n, _, _, _ => .nil
  | .cons b k r, u, n, ho, hs, hd => .cons (lcl_ok k u n ho.1 hs.1 (by simp [Ks.dep] at hd; omega)) (lcls_ok r u n ho.2 hs.2 (by simp [Ks.dep] at hd; omega))
end
end
end K32
end

section
set_option maxRecDepth 100000
namespace K32
open PySem PV Kn
open PW (whlI wf bin_mod bin_fdiv bin_mul mulOk_l mulOk_r pow18 log_small)
/-- the spring: its great numbers, its state, and what stands behind it -/
def Sp (gs : List Int) (b c : Int) (rest : Hh) : Hh := .lst (gs.map .int) :: .lst [.ref 0, .int b, .int c] :: rest
structure SpOk (gs : List Int) (b c : Int) : Prop where
  g0 : ∀ g ∈ gs, 0 ≤ g
  b0 : 0 ≤ b
  b1 : b < 2305843009213693951
  c0 : 0 ≤ c
  gl : gs.length ≤ 1000
def Inv (rest h : Hh) : Prop := ∃ gs b c, h = Sp gs b c rest ∧ SpOk gs b c
section
variable {gs : List Int} {b c g : Int} {rest h : Hh} {k : Nat}
theorem sp_at0 : (Sp gs b c rest)[0]? = some (.lst (gs.map .int)) := rfl
theorem sp_at1 : (Sp gs b c rest)[1]? = some (.lst [.ref 0, .int b, .int c]) := rfl
theorem sp_0 : opIdx (Sp gs b c rest) (.ref 1) (.int 0) = some (.ref 0) := rfl
theorem sp_1 : opIdx (Sp gs b c rest) (.ref 1) (.int 1) = some (.int b) := rfl
theorem sp_2 : opIdx (Sp gs b c rest) (.ref 1) (.int 2) = some (.int c) := rfl
theorem sp_g : opIdx (Sp (g :: gs) b c rest) (.ref 0) (.int 0) = some (.int g) := by
  show L2.atI ((g :: gs).map D.int) 0 = _
  exact L2.atI_nat (xs := (g :: gs).map D.int) (j := 0) rfl
theorem sp_pop : mthOp .popAt (.ref 0) [.int 0] (Sp (g :: gs) b c rest) = .ok (.int g) (Sp gs b c rest) := by
  have : L2.ixN ((g :: gs).map D.int).length 0 = some 0 := by unfold L2.ixN; simp
  simp only [mthOp, mthRef, sp_at0, mtL, mtPopAt, this]
  simp [Sp]
theorem sp_ne : opCmp .ne (Sp gs b c rest) (.ref 0) (.lst []) = some (!gs.isEmpty) := PW.ne_nil sp_at0
theorem sp_isL : (D.ref 0).isL (Sp gs b c rest) = true := rfl
theorem sp_stog (x : Int) : stoOp (.ref 0) (.int 0) (.int x) (Sp (g :: gs) b c rest) = some (Sp (x :: gs) b c rest) := by
  simp only [stoOp, sp_at0]
  have : L2.ixN ((g :: gs).map D.int).length 0 = some 0 := by unfold L2.ixN; simp
  rw [this]
  simp [Sp]
theorem sp_sto1 (x : Int) : stoOp (.ref 1) (.int 1) (.int x) (Sp gs b c rest) = some (Sp gs x c rest) := rfl
theorem sp_sto2 (x : Int) : stoOp (.ref 1) (.int 2) (.int x) (Sp gs b c rest) = some (Sp gs b x rest) := rfl
def b_dw : Ss := match b__law_drop with
  | .cons _ (.cons (.whl _ b) _) => b
  | _ => .nil
def e_dc : E := match b__law_drop with
  | .cons _ (.cons (.whl c _) _) => c
  | _ => .miss
/-- the noughts in front go -/
theorem drop_zeros (k : Nat) (ok : SpOk gs b c) (many : Int) : ∃ gs', SpOk gs' b c ∧ gs'.head? ≠ some 0 ∧ evS (F k) G (.whl e_dc b_dw) [some (.ref 1), some (.int many), some (.ref 0), none] (Sp gs b c rest) = .nxt [some (.ref 1), some (.int many), some (.ref 0), none] (Sp gs' b c rest) := by
  have run := whlI (c := (evE (F k) G e_dc).t) (b := evSs (F k) G b_dw)
    (fun n ρ h => ∃ gs', ρ = [some (.ref 1), some (.int many), some (.ref 0), none] ∧ h = Sp gs' b c rest ∧ SpOk gs' b c ∧ gs'.length = n)
    (fun ρ h => ∃ gs', ρ = [some (.ref 1), some (.int many), some (.ref 0), none] ∧ h = Sp gs' b c rest ∧ SpOk gs' b c ∧ gs'.head? ≠ some 0)
    (fun n ρ h ⟨gs', e1, e2, ok', hl⟩ => by
      subst e1 e2
      cases gs' with
      | nil => exact .inl ⟨_, by simp [e_dc, b__law_drop, sp_ne], [], rfl, rfl, ok', by simp⟩
      | cons g r =>
        by_cases hg : g = 0
        · subst hg
          refine .inr ⟨_, by simp [e_dc, b__law_drop, sp_ne, sp_g]; rfl, r.length, _, _, by rw [← hl]; simp, ?_, r, rfl, rfl, ⟨fun x hx => ok'.g0 x (List.mem_cons_of_mem _ hx), ok'.b0, ok'.b1, ok'.c0, by have := ok'.gl; simp only [List.length_cons] at this; omega⟩, rfl⟩
          simp [b_dw, b__law_drop, sp_isL, sp_pop]
        · exact .inl ⟨_, by simp [e_dc, b__law_drop, sp_ne, sp_g, hg], g :: r, rfl, rfl, ok', by simpa using hg⟩)
  obtain ⟨ρ', h', e, gs', e1, e2, ok', hh⟩ := run wfuel gs.length _ _ ⟨gs, rfl, rfl, ok, rfl⟩ (by have := ok.gl; rw [wf]; omega)
  subst e1 e2
  exact ⟨gs', ok', hh, e⟩
def b_dt : Ss := match b__law_drop with
  | .cons _ (.cons _ t) => t
  | _ => .nil
theorem b_d_eq : b__law_drop = .cons (.asg 2 (.idx (.var 0) (.con (.int 0)))) (.cons (.whl e_dc b_dw) b_dt) := rfl
theorem drop_ok (i : Inv rest h) {many : Int} (h0 : 0 < many) (h1 : many < 1073741824) :
    ∃ v h', C (k + 1) n__law_drop [.ref 1, .int many] h = .ok (.int v) h' ∧ 0 ≤ v ∧ v < many ∧ Inv rest h' := by
  obtain ⟨gs, b, c, rfl, ok⟩ := i
  obtain ⟨gs', ok', hh, e⟩ := drop_zeros (rest := rest) k ok many
  cases gs' with
  | cons g r =>
    have g0 := ok'.g0 g List.mem_cons_self
    refine ⟨g % many, Sp (g / many :: r) b c rest, ?_, Int.emod_nonneg _ (by omega), Int.emod_lt_of_pos _ h0, _, _, _, rfl, ⟨?_, ok.b0, ok.b1, ok.c0, ok'.gl⟩⟩
    · rw [C__law_drop, b_d_eq]
      simp -implicitDefEqProofs only [s_cons, s_asg, v_idx, v_var, v_con]
      simp -implicitDefEqProofs [sp_0, e]
      simp -implicitDefEqProofs [b_dt, b__law_drop, sp_ne, sp_g, sp_stog, bin_mod h0, bin_fdiv h0 h1]
    · intro x hx
      (rcases List.mem_cons.mp hx with rfl | hx)
      · exact Int.ediv_nonneg g0 (by omega)
      · exact ok'.g0 x (List.mem_cons_of_mem _ hx)
  | nil =>
    have m1 : mulOk b 6364136223846793005 = true := mulOk_r (by omega) (by omega)
    have m2 : mulOk (c + 1) 1442695040888963407 = true := mulOk_r (by omega) (by omega)
    generalize hx : (b * 6364136223846793005 + (c + 1) * 1442695040888963407) % 2305843009213693951 = x
    have x0 : 0 ≤ x := by rw [← hx]; exact Int.emod_nonneg _ (by omega)
    have x1 : x < 2305843009213693951 := by rw [← hx]; exact Int.emod_lt_of_pos _ (by omega)
    have m3 : mulOk x x = true := mulOk_r x0 (by omega)
    have d1 : ∀ (h : Hh) (i : Int), opBin .fdiv h (.int i) (.int 1048576) = some (.int (i / 1048576)) := fun h i => bin_fdiv (by omega) (by omega)
    refine ⟨x * x % 2305843009213693921 / 1048576 % many, Sp [] x (c + 1) rest, ?_, Int.emod_nonneg _ (by omega), Int.emod_lt_of_pos _ h0, _, _, _, rfl, ⟨ok'.g0, x0, x1, by have := ok.c0; omega, ok'.gl⟩⟩
    rw [C__law_drop, b_d_eq]
    simp -implicitDefEqProofs only [s_cons, s_asg, v_idx, v_var, v_con]
    simp -implicitDefEqProofs [sp_0, e]
    simp -implicitDefEqProofs [b_dt, b__law_drop, sp_ne, sp_1, sp_2, sp_sto1, sp_sto2, bin_mod h0, bin_mod, bin_mul m1, bin_mul m2, bin_mul m3, hx, d1]
end
end K32
end

section
set_option maxRecDepth 100000
namespace K32
open PySem PV Kn
open PW (rng_ok rngD_nat)
mutual
theorem tr_cw {g : Leaf} (h : ∀ v f n, (g v f n).cw ≤ 1) : ∀ (k : Kd) (u : Nat), (k.tr g u).cw ≤ k.cw
  | .int, u => Nat.le_refl _
  | .free n, u => h u true n
  | .var n, u => h u false n
  | .un w k, u => by have := tr_cw h k (u + w.bn); simp only [Kd.tr, Kd.cw]; omega
  | .mn .row ks, u => by have := trs_cw h ks (u + 0); simp only [Kd.tr, Kd.cw, Mn.bn]; omega
  | .mn .one ks, u => by have := trs_cw h ks (u + 0); simp only [Kd.tr, Kd.cw, Mn.bn]; omega
  | .mn .room ks, u => by have := trs_cw h ks (u + 0); simp only [Kd.tr, Kd.cw, Mn.bn]; omega
  | .mn (.code n) ks, u => by have := trs_cw h ks (u + n); simp only [Kd.tr, Kd.cw, Mn.bn]; omega
  | .mn (.not n) ks, u => by have := trs_cw h ks (u + n); simp only [Kd.tr, Kd.cw, Mn.bn]; omega
  | .to n ks l, u => by have := trs_cw h ks (u + n); have := tr_cw h l (u + n); simp only [Kd.tr, Kd.cw]; omega
theorem trs_cw {g : Leaf} (h : ∀ v f n, (g v f n).cw ≤ 1) : ∀ (ks : Ks) (u : Nat), (ks.tr g u).cw ≤ ks.cw
  | .nil, u => Nat.le_refl _
  | .cons b k r, u => by have := tr_cw h k u; have := trs_cw h r u; simp only [Ks.tr, Ks.cw]; omega
end
/-- a good kind in turns: f free ones, u bound ones, drawn d deep -/
structure Gk (f u d : Nat) (k : Kd) : Prop where
  ok : k.ok TW f u
  tw : k.tw
  nt : k.nt
  dw : k.dw ≤ 7 * d + 1
  cw : k.cw ≤ 13 * d + 1
structure Gks (f u d : Nat) (k : Ks) : Prop where
  ok : k.ok TW f u
  tw : k.tw
  nt : k.nt
  dw : k.dw ≤ 7 * d + 1
  cw : k.cw ≤ 13 * d + 1
theorem of_gk {f u d : Nat} : ∀ {ks : List Kd}, (∀ k ∈ ks, Gk f u d k) → Gks f u d (Ks.of ks)
  | [], _ => ⟨trivial, trivial, trivial, Nat.zero_le _, Nat.zero_le _⟩
  | k :: r, h => by
    have h1 := h k List.mem_cons_self
    have h2 := of_gk fun c hc => h c (List.mem_cons_of_mem _ hc)
    exact ⟨⟨h1.ok, h2.ok⟩, ⟨h1.tw, h2.tw⟩, ⟨rfl, h1.nt, h2.nt⟩, Nat.max_le.mpr ⟨h1.dw, h2.dw⟩, Nat.max_le.mpr ⟨h1.cw, h2.cw⟩⟩
theorem Gk.up {f u d f' u' d' : Nat} {k : Kd} (g : Gk f u d k) (h1 : f ≤ f') (h2 : u ≤ u') (h3 : d ≤ d') : Gk f' u' d' k := ⟨ok_le k g.ok h1 h2, g.tw, g.nt, by have := g.dw; omega, by have := g.cw; omega⟩
/-! shut -/
theorem shG_tw (a v : Nat) (f : Bool) (n : Nat) : (shG a v f n).tw := by unfold shG; split <;> (try split) <;> trivial
theorem shG_nt (a v : Nat) (f : Bool) (n : Nat) : (shG a v f n).nt := by unfold shG; split <;> (try split) <;> trivial
theorem shG_dw (a v : Nat) (f : Bool) (n : Nat) : (shG a v f n).dw ≤ 0 + 1 := by unfold shG; split <;> (try split) <;> exact Nat.le_refl 1
theorem shG_cw (a v : Nat) (f : Bool) (n : Nat) : (shG a v f n).cw ≤ 1 := by unfold shG; split <;> (try split) <;> exact Nat.le_refl 1
theorem shG_ok (a m v : Nat) : (∀ n, n < a + m → (shG a v true n).ok TW a (v + m)) ∧ ∀ n, n < v + 0 → (shG a v false n).ok TW a (v + m) := by
  refine ⟨fun n hn => ?_, fun n hn => ?_⟩
  · unfold shG
    (simp only [if_true])
    split
    · show v + n - a < v + m; omega
    · show n < a; omega
  · show n < v + m; omega
theorem Gk.sh {a m d : Nat} {k : Kd} (g : Gk (a + m) 0 d k) : Gk a m d (k.tr (shG a) 0) := by
  have o := tr_ok (g := shG a) (F' := a) (s := 0) (t := m) k 0 (by rw [Nat.zero_add]; exact g.ok) fun v _ => shG_ok a m v
  rw [Nat.zero_add] at o
  exact ⟨o, tr_tw (shG_tw a) k 0 g.tw, tr_nt (shG_nt a) k 0 g.nt, Nat.le_trans (tr_dw (shG_dw a) k 0) (by have := g.dw; omega), Nat.le_trans (tr_cw (shG_cw a) k 0) g.cw⟩
theorem dep_le {f u d : Nat} {k : Kd} (g : Gk f u d k) : k.dep ≤ 7 * d + 1 := Nat.le_trans (dep_dw k) g.dw
/-! ### the draw -/
def KSpec (deep k : Nat) : Prop := ∀ (rest h : Hh) (f : Nat), f + 6 * deep ≤ 1000 → Inv rest h →
  ∃ (kd : Kd) (h' : Hh), C k n__law_some_kind [.ref 1, .int (f : Int), .int (deep : Int)] h = .ok kd.d h' ∧ Inv rest h' ∧ Gk f 0 deep kd
section
variable {rest h : Hh} {d fu f : Nat}
theorem sub1 (d : Nat) : (((d + 1 : Nat) : Int) - 1) = (d : Int) := by omega
theorem loop_0 (hu : f + 6 * d ≤ 1000) (ih : KSpec d (fu + 1)) (i : Inv rest h) (xs : List D) (r3 r4 r5 r6 r7 r8 r9 : Option D) :
    ∃ (zs : List Kd) (h' : Hh), lcLoop (fun _ => true) (lcTurn (.v 5) (evE (F (fu + 1)) G c__law_some_kind_0) (evE (F (fu + 1)) G x__law_some_kind_0) [some (.ref 1), some (.int f), some (.int ((d : Int) + 1)), r3, r4, r5, r6, r7, r8, r9]) xs [] h = .ok (.lst (zs.map Kd.d)) h' ∧ zs.length = xs.length ∧ (∀ z ∈ zs, Gk f 0 d z) ∧ Inv rest h' := by
  obtain ⟨zs, h', e, l, q, i'⟩ := Kn.lcS (Inv := Inv rest) (turn := lcTurn (.v 5) (evE (F (fu + 1)) G c__law_some_kind_0) (evE (F (fu + 1)) G x__law_some_kind_0) [some (.ref 1), some (.int f), some (.int ((d : Int) + 1)), r3, r4, r5, r6, r7, r8, r9]) Kd.d (Gk f 0 d) (xs := xs) (acc := []) i (by
    intro x _ h i
    obtain ⟨kd, h', e, i', g⟩ := ih rest h f hu i
    exact ⟨kd, _, by simp [e], g, i'⟩)
  exact ⟨zs, h', e, l, q, i'⟩
theorem loop_1 (hu : f + 6 * d ≤ 1000) (ih : KSpec d (fu + 1)) (i : Inv rest h) (xs : List D) (r3 r4 r5 r6 r7 r8 r9 : Option D) :
    ∃ (zs : List Kd) (h' : Hh), lcLoop (fun _ => true) (lcTurn (.v 5) (evE (F (fu + 1)) G c__law_some_kind_1) (evE (F (fu + 1)) G x__law_some_kind_1) [some (.ref 1), some (.int f), some (.int ((d : Int) + 1)), r3, r4, r5, r6, r7, r8, r9]) xs [] h = .ok (.lst (zs.map Kd.d)) h' ∧ zs.length = xs.length ∧ (∀ z ∈ zs, Gk f 0 d z) ∧ Inv rest h' := by
  obtain ⟨zs, h', e, l, q, i'⟩ := Kn.lcS (Inv := Inv rest) (turn := lcTurn (.v 5) (evE (F (fu + 1)) G c__law_some_kind_1) (evE (F (fu + 1)) G x__law_some_kind_1) [some (.ref 1), some (.int f), some (.int ((d : Int) + 1)), r3, r4, r5, r6, r7, r8, r9]) Kd.d (Gk f 0 d) (xs := xs) (acc := []) i (by
    intro x _ h i
    obtain ⟨kd, h', e, i', g⟩ := ih rest h f hu i
    exact ⟨kd, _, by simp [e], g, i'⟩)
  exact ⟨zs, h', e, l, q, i'⟩
theorem loop_2 {m : Nat} (hu : f + m + 6 * d ≤ 1000) (ih : KSpec d (fu + 1)) (i : Inv rest h) (xs : List D) (r3 r4 r5 r6 r8 r9 : Option D) :
    ∃ (zs : List Kd) (h' : Hh), lcLoop (fun _ => true) (lcTurn (.v 5) (evE (F (fu + 1)) G c__law_some_kind_2) (evE (F (fu + 1)) G x__law_some_kind_2) [some (.ref 1), some (.int f), some (.int ((d : Int) + 1)), r3, r4, r5, r6, some (.int m), r8, r9]) xs [] h = .ok (.lst (zs.map Kd.d)) h' ∧ zs.length = xs.length ∧ (∀ z ∈ zs, Gk (f + m) 0 d z) ∧ Inv rest h' := by
  obtain ⟨zs, h', e, l, q, i'⟩ := Kn.lcS (Inv := Inv rest) (turn := lcTurn (.v 5) (evE (F (fu + 1)) G c__law_some_kind_2) (evE (F (fu + 1)) G x__law_some_kind_2) [some (.ref 1), some (.int f), some (.int ((d : Int) + 1)), r3, r4, r5, r6, some (.int m), r8, r9]) Kd.d (Gk (f + m) 0 d) (xs := xs) (acc := []) i (by
    intro x _ h i
    obtain ⟨kd, h', e, i', g⟩ := ih rest h (f + m) hu i
    simp only [Int.natCast_add] at e
    exact ⟨kd, _, by simp [e], g, i'⟩)
  exact ⟨zs, h', e, l, q, i'⟩
theorem loop_3 {m : Nat} {zs : List Kd} (q : ∀ z ∈ zs, Gk (f + m) 0 d z) (hf : 7 * d + 1 ≤ fu) (r0 r2 r3 r4 r5 r6 r7 r8 r9 : Option D) :
    lcLoop (fun _ => true) (lcTurn (.v 9) (evE (F (fu + 2)) G c__law_some_kind_3) (evE (F (fu + 2)) G x__law_some_kind_3) [r0, some (.int f), r2, r3, r4, r5, r6, r7, r8, r9]) (zs.map Kd.d) [] h = .ok (.lst ((zs.map fun z : Kd => Kd.tr (shG f) 0 z).map Kd.d)) h := by
  have e := PW.lcMm (turn := lcTurn (.v 9) (evE (F (fu + 2)) G c__law_some_kind_3) (evE (F (fu + 2)) G x__law_some_kind_3) [r0, some (.int f), r2, r3, r4, r5, r6, r7, r8, r9]) (h := h) (acc := []) Kd.d (fun z => (z.tr (shG f) 0).d) (zs := zs) (by
    intro z hz
    have g := q z hz
    have e := lsh_ok (h := h) (a := f) z 0 fu (ok_tk z g.ok) (tw_sm z g.tw) (Nat.le_trans (dep_le g) hf)
    simp only [Int.natCast_zero] at e
    simp [e])
  rw [e, List.nil_append, List.map_map]
  rfl
def b_k1 : Ss := match b__law_some_kind with
  | .cons _ t => t
  | _ => .nil
def b_k4 : Ss := match b_k1 with
  | .cons _ (.cons _ t) => t
  | _ => .nil
def b_k5 : Ss := match b_k4 with
  | .cons _ t => t
  | _ => .nil
def b_kin : Ss := match b_k5 with
  | .cons _ (.cons _ (.cons _ (.cons (.ite _ (.cons _ t) _) _))) => t
  | _ => .nil
theorem b_k_eq : b__law_some_kind = .cons (.asg 3 (.call 18 (.cons (.var 0) (.cons (.idx (.lst (.cons (.con (.int 3)) (.cons (.con (.int 12)) .nil))) (.bf .int (.cons (.cmp .gt (.var 2) (.con (.int 0))) .nil))) .nil)))) b_k1 := rfl
theorem b_k1_eq : b_k1 = .cons (.ite (.or (.cmp .lt (.var 3) (.con (.int 2))) (.cons (.and (.cmp .eq (.var 3) (.con (.int 2))) (.cons (.cmp .eq (.var 1) (.con (.int 0))) .nil)) .nil)) (.cons (.ret (.tup (.cons (.con (.str "int")) .nil))) .nil) (.nil)) (.cons (.ite (.cmp .eq (.var 3) (.con (.int 2))) (.cons (.ret (.tup (.cons (.con (.str "free")) (.cons (.call 18 (.cons (.var 0) (.cons (.var 1) .nil))) .nil)))) .nil) (.nil)) b_k4) := rfl
theorem b_k4_eq : b_k4 = .cons (.asg 4 (.idx (.lst (.cons (.con (.int 4)) (.cons (.con (.int 4)) (.cons (.con (.int 4)) (.cons (.con (.int 7)) .nil))))) (.call 18 (.cons (.var 0) (.cons (.con (.int 4)) .nil))))) b_k5 := rfl
abbrev Ke (f dp way : Int) (sz : Option D) : PV.Env := [some (.ref 1), some (.int f), some (.int dp), some (.int way), sz, none, none, none, none, none]
theorem four_ok {a b : Int} {v : Int} (h0 : 0 ≤ v) (h1 : v < 4) : L2.atI [D.int a, .int a, .int a, .int b] v = some (.int a) ∨ L2.atI [D.int a, .int a, .int a, .int b] v = some (.int b) := by
  have : v = 0 ∨ v = 1 ∨ v = 2 ∨ v = 3 := by omega
  rcases this with rfl | rfl | rfl | rfl
  · exact .inl rfl
  · exact .inl rfl
  · exact .inl rfl
  · exact .inr rfl
/-- the ends that every depth has -/
theorem tail_leaf (i : Inv rest h) (dp : Int) (hf : f ≤ 1000) {way : Int} (hw : way = 0 ∨ way = 1 ∨ way = 2) (N : Nat) :
    ∃ (kd : Kd) (h' : Hh), finR false N (evSs (F (fu + 1)) G b_k1 (Ke f dp way none) h) = .ok kd.d h' ∧ Inv rest h' ∧ Gk f 0 0 kd := by
  have gi : Gk f 0 0 .int := ⟨by show Str.ofString "int" ∈ TW; simp [TW], trivial, trivial, Nat.le_refl _, Nat.le_refl _⟩
  rcases hw with rfl | rfl | rfl
  · exact ⟨.int, h, by simp -implicitDefEqProofs [b_k1_eq, Kd.d], i, gi⟩
  · exact ⟨.int, h, by simp -implicitDefEqProofs [b_k1_eq, Kd.d], i, gi⟩
  · by_cases hu0 : 0 < f
    · obtain ⟨v, h', e, v0, v1, i'⟩ := drop_ok (k := fu) i (many := (f : Int)) (by omega) (by omega)
      obtain ⟨n, rfl⟩ : ∃ n : Nat, v = (n : Int) := ⟨v.toNat, by omega⟩
      have hz : ¬ f = 0 := by omega
      exact ⟨.free n, h', by simp -implicitDefEqProofs [b_k1_eq, Kd.d, e, hz], i', by show n < f; omega, trivial, trivial, Nat.le_refl _, Nat.le_refl _⟩
    · have hz : f = 0 := by omega
      subst hz
      exact ⟨.int, h, by simp -implicitDefEqProofs [b_k1_eq, Kd.d], i, gi⟩
theorem to_k4 {way : Int} (h3 : 3 ≤ way) (dp : Int) : evSs (F (fu + 1)) G b_k1 (Ke f dp way none) h = evSs (F (fu + 1)) G b_k4 (Ke f dp way none) h := by
  have a1 : ¬ way < 2 := by omega
  have a2 : (way == 2) = false := beq_eq_false_iff_ne.mpr (by omega)
  have a3 : ¬ way = 2 := by omega
  rw [b_k1_eq]
  simp -implicitDefEqProofs [a1, a2, a3]
theorem to_k5 (i : Inv rest h) (dp way : Int) (N : Nat) (P : Kd → Prop) (st : ∀ sz : Int, sz = 4 ∨ sz = 7 → ∀ h1, Inv rest h1 → ∃ (kd : Kd) (h' : Hh), finR false N (evSs (F (fu + 1)) G b_k5 (Ke f dp way (some (.int sz))) h1) = .ok kd.d h' ∧ Inv rest h' ∧ P kd) :
    ∃ (kd : Kd) (h' : Hh), finR false N (evSs (F (fu + 1)) G b_k4 (Ke f dp way none) h) = .ok kd.d h' ∧ Inv rest h' ∧ P kd := by
  obtain ⟨v, h1, e, v0, v1, i1⟩ := drop_ok (k := fu) i (many := 4) (by omega) (by omega)
  rcases four_ok (a := 4) (b := 7) v0 v1 with q | q
  · obtain ⟨kd, h', e2, i2, p⟩ := st 4 (.inl rfl) h1 i1
    exact ⟨kd, h', by rw [b_k4_eq]; simp -implicitDefEqProofs [e, q]; exact e2, i2, p⟩
  · obtain ⟨kd, h', e2, i2, p⟩ := st 7 (.inr rfl) h1 i1
    exact ⟨kd, h', by rw [b_k4_eq]; simp -implicitDefEqProofs [e, q]; exact e2, i2, p⟩
theorem tail_row (i : Inv rest h) (ih : KSpec d (fu + 1)) (hu : f + 6 * (d + 1) ≤ 1000) {way sz : Int} (hw : way = 3 ∨ way = 4) (hs : sz = 4 ∨ sz = 7) (N : Nat) :
    ∃ (kd : Kd) (h' : Hh), finR false N (evSs (F (fu + 1)) G b_k5 (Ke f ((d : Int) + 1) way (some (.int sz))) h) = .ok kd.d h' ∧ Inv rest h' ∧ Gk f 0 (d + 1) kd := by
  obtain ⟨v, h1, e1, v0, v1, i1⟩ := drop_ok (k := fu) i (many := sz) (by omega) (by omega)
  obtain ⟨zs, h2, e2, l2, q2, i2⟩ := loop_0 (f := f) (by omega) ih i1 (rngD 0 v) (some (.int way)) (some (.int sz)) none none none none none
  have hr : rngOk 0 v = true := K32.rng_ok (by omega) (by omega)
  have hz : (rngD 0 v).length ≤ 16777216 := by rw [rngD_len]; omega
  have g := of_gk q2
  refine ⟨.mn .row (Ks.of zs), h2, ?_, i2, ⟨by simp [TW], Nat.zero_le _, trivial, g.ok⟩, ⟨by rw [of_len, l2, rngD_len]; omega, g.tw⟩, g.nt, ?_, ?_⟩
  · rcases hw with rfl | rfl <;> simp -implicitDefEqProofs [b_k5, b_k4, b_k1, b__law_some_kind, Kd.d, e1, hr, hz, e2, of_ds]
  · have := g.dw; simp only [Kd.dw]; omega
  · have := g.cw; simp only [Kd.cw]; omega
theorem tail_one (i : Inv rest h) (ih : KSpec d (fu + 1)) (hu : f + 6 * (d + 1) ≤ 1000) {sz : Int} (hs : sz = 4 ∨ sz = 7) (N : Nat) :
    ∃ (kd : Kd) (h' : Hh), finR false N (evSs (F (fu + 1)) G b_k5 (Ke f ((d : Int) + 1) 5 (some (.int sz))) h) = .ok kd.d h' ∧ Inv rest h' ∧ Gk f 0 (d + 1) kd := by
  obtain ⟨v, h1, e1, v0, v1, i1⟩ := drop_ok (k := fu) i (many := sz - 1) (by omega) (by omega)
  obtain ⟨zs, h2, e2, l2, q2, i2⟩ := loop_1 (f := f) (by omega) ih i1 (rngD 0 (1 + v)) (some (.int 5)) (some (.int sz)) none none none none none
  have hr : rngOk 0 (1 + v) = true := K32.rng_ok (by omega) (by omega)
  have hz : (rngD 0 (1 + v)).length ≤ 16777216 := by rw [rngD_len]; omega
  have g := of_gk q2
  refine ⟨.mn .one (Ks.of zs), h2, by simp -implicitDefEqProofs [b_k5, b_k4, b_k1, b__law_some_kind, Kd.d, e1, hr, hz, e2, of_ds], i2, ⟨by simp [TW], Nat.zero_le _, by show 0 < (Ks.of zs).len; rw [of_len, l2, rngD_len]; omega, g.ok⟩, ⟨by rw [of_len, l2, rngD_len]; omega, g.tw⟩, g.nt, ?_, ?_⟩
  · have := g.dw; simp only [Kd.dw]; omega
  · have := g.cw; simp only [Kd.cw]; omega
theorem tail_cell (i : Inv rest h) (ih : KSpec d (fu + 1)) (hu : f + 6 * (d + 1) ≤ 1000) (sz : Int) (N : Nat) :
    ∃ (kd : Kd) (h' : Hh), finR false N (evSs (F (fu + 1)) G b_k5 (Ke f ((d : Int) + 1) 6 (some (.int sz))) h) = .ok kd.d h' ∧ Inv rest h' ∧ Gk f 0 (d + 1) kd := by
  obtain ⟨kd, h1, e1, i1, g⟩ := ih rest h f (by omega) i
  refine ⟨.un .cel kd, h1, by simp -implicitDefEqProofs [b_k5, b_k4, b_k1, b__law_some_kind, Kd.d, e1], i1, ⟨by simp [TW], (fun q => by cases q), g.ok⟩, g.tw, g.nt, ?_, ?_⟩
  · have := g.dw; simp only [Kd.dw]; omega
  · have := g.cw; simp only [Kd.cw]; omega
theorem tail_not (i : Inv rest h) (ih : KSpec d (fu + 2)) (hu : f + 6 * (d + 1) ≤ 1000) (hf : 7 * d + 1 ≤ fu) {sz : Int} (hs : sz = 4 ∨ sz = 7) (N : Nat) :
    ∃ (kd : Kd) (h' : Hh), finR false N (evSs (F (fu + 2)) G b_k5 (Ke f ((d : Int) + 1) 11 (some (.int sz))) h) = .ok kd.d h' ∧ Inv rest h' ∧ Gk f 0 (d + 1) kd := by
  obtain ⟨v, h1, e1, v0, v1, i1⟩ := drop_ok (k := fu + 1) i (many := 4) (by omega) (by omega)
  obtain ⟨w, hw, ew⟩ : ∃ w : Int, (w = 3 ∨ w = 6) ∧ L2.atI [D.int 3, .int 3, .int 3, .int 6] v = some (.int w) := by
    rcases four_ok (a := 3) (b := 6) v0 v1 with q | q
    · exact ⟨3, .inl rfl, q⟩
    · exact ⟨6, .inr rfl, q⟩
  obtain ⟨m', h2, e2, m0, m1, i2⟩ := drop_ok (k := fu + 1) i1 (many := w) (by omega) (by omega)
  obtain ⟨m, rfl⟩ : ∃ n : Nat, m' = (n : Int) := ⟨m'.toNat, by omega⟩
  obtain ⟨v3, h3, e3, v30, v31, i3⟩ := drop_ok (k := fu + 1) i2 (many := sz) (by omega) (by omega)
  obtain ⟨zs, h4, e4, l4, q4, i4⟩ := loop_2 (f := f) (m := m) (by omega) ih i3 (rngD 0 v3) (some (.int 11)) (some (.int sz)) none none none none
  have hr : rngOk 0 v3 = true := K32.rng_ok (by omega) (by omega)
  have hz : (rngD 0 v3).length ≤ 16777216 := by rw [rngD_len]; omega
  have e5 := loop_3 (h := h4) (fu := fu) q4 hf (some (.ref 1)) (some (.int ((d : Int) + 1))) (some (.int 11)) (some (.int sz)) none none (some (.int m)) (some (.lst (zs.map Kd.d))) none
  have hz2 : zs.length ≤ 16777216 := by rw [l4]; exact hz
  have q5 : ∀ z ∈ zs.map (fun z : Kd => Kd.tr (shG f) 0 z), Gk f m d z := fun z hz => by
    obtain ⟨y, hy, rfl⟩ := List.mem_map.mp hz
    exact (q4 y hy).sh
  have g := of_gk q5
  refine ⟨.mn (.not m) (Ks.of (zs.map fun z : Kd => Kd.tr (shG f) 0 z)), h4, ?_, i4, ⟨by simp [TW], by show m ≤ 10000; omega, trivial, by show (Ks.of _).ok TW f (0 + m); rw [Nat.zero_add]; exact g.ok⟩, ⟨by rw [of_len, List.length_map, l4, rngD_len]; omega, g.tw⟩, g.nt, ?_, ?_⟩
  · simp -implicitDefEqProofs [b_k5, b_k4, b_k1, b__law_some_kind, Kd.d, e1, ew, e2, e3, hr, hz, e4, hz2, e5, of_ds]
  · have := g.dw; simp only [Kd.dw]; omega
  · have := g.cw; simp only [Kd.cw]; omega
end
end K32
end

section
set_option maxRecDepth 100000
namespace K32
open PySem PV Kn
section
variable {rest h : Hh} {d fu f : Nat}
theorem fin_gk {w : Un} {K : Kd} (hw : w = .som ∨ w = .re) (ok : K.ok TW (f + 1) 0) (tw : K.tw) (nt : K.nt) (dw : K.dw ≤ 7 * d + 7) (cw : K.cw ≤ 13 * d + 13) (hr : w = .re → hdV K.d = false) : Gk f 0 (d + 1) (.un w (K.tr (shG f) 0)) := by
  have o := tr_ok (g := shG f) (F' := f) (s := 0) (t := 1) K 0 (by rw [Nat.zero_add]; exact ok) fun v _ => shG_ok f 1 v
  refine ⟨⟨by rcases hw with rfl | rfl <;> simp [TW], fun e => hdV_tr (hr e), by rcases hw with rfl | rfl <;> exact o⟩, tr_tw (shG_tw f) K 0 tw, tr_nt (shG_nt f) K 0 nt, ?_, ?_⟩
  · have := tr_dw (shG_dw f) K 0; show (K.tr (shG f) 0).dw + 1 ≤ _; omega
  · have := tr_cw (shG_cw f) K 0; show (K.tr (shG f) 0).cw + 1 ≤ _; omega
theorem sh_run {K : Kd} (ok : K.ok TW (f + 1) 0) (tw : K.tw) (dw : K.dw ≤ 7 * d + 7) (hf : 7 * d + 7 ≤ fu) : C (fu + 2) n__law_shut [K.d, .int 0, .int (f : Int)] h = .ok (K.tr (shG f) 0).d h := by
  have e := lsh_ok (h := h) (a := f) K 0 fu (ok_tk K ok) (tw_sm K tw) (Nat.le_trans (dep_dw K) (Nat.le_trans dw hf))
  simpa only [Int.natCast_zero] using e
theorem dw_pos : ∀ k : Kd, 1 ≤ k.dw
  | .int => Nat.le_refl _
  | .free _ => Nat.le_refl _
  | .var _ => Nat.le_refl _
  | .un _ _ => by simp only [Kd.dw]; omega
  | .mn _ _ => by simp only [Kd.dw]; omega
  | .to _ _ _ => by simp only [Kd.dw]; omega
theorem cw_pos : ∀ k : Kd, 1 ≤ k.cw
  | .int => Nat.le_refl _
  | .free _ => Nat.le_refl _
  | .var _ => Nat.le_refl _
  | .un _ _ => by simp only [Kd.cw]; omega
  | .mn m _ => by cases m <;> simp only [Kd.cw] <;> omega
  | .to _ _ _ => by simp only [Kd.cw]; omega
theorem b_k5_in (f : Nat) (dp way : Int) (sz : Option D) (h7 : 7 ≤ way) (h11 : way < 11) {kd : D} {h1 : Hh} (e : C (fu + 1) n__law_some_kind [.ref 1, .int ((f : Int) + 1), .int (dp - 1)] h = .ok kd h1) {v : D} {h2 : Hh}
    (hq : evSs (F (fu + 1)) G b_kin [some (.ref 1), some (.int f), some (.int dp), some (.int way), sz, none, some kd, none, none, none] h1 = .ret v h2) (N : Nat) : finR false N (evSs (F (fu + 1)) G b_k5 (Ke f dp way sz) h) = .ok v h2 := by
  have a3 : ¬ way = 3 := by omega
  have a4 : ¬ way = 4 := by omega
  have a5 : ¬ way = 5 := by omega
  have a6 : ¬ way = 6 := by omega
  have u : b_k5 = .cons (.ite (.or (.cmp .eq (.var 3) (.con (.int 3))) (.cons (.cmp .eq (.var 3) (.con (.int 4))) .nil)) (.cons (.ret (.tup (.cons (.con (.str "row")) (.cons (.bf .tuple (.cons (e__law_some_kind_0) .nil)) .nil)))) .nil) (.nil)) (.cons (.ite (.cmp .eq (.var 3) (.con (.int 5))) (.cons (.ret (.tup (.cons (.con (.str "one")) (.cons (.bf .tuple (.cons (e__law_some_kind_1) .nil)) .nil)))) .nil) (.nil)) (.cons (.ite (.cmp .eq (.var 3) (.con (.int 6))) (.cons (.ret (.tup (.cons (.con (.str "cell")) (.cons (.call 25 (.cons (.var 0) (.cons (.var 1) (.cons (.bin .sub (.var 2) (.con (.int 1))) .nil)))) .nil)))) .nil) (.nil)) (.cons (.ite (.cmp .lt (.var 3) (.con (.int 11))) (.cons (.asg 6 (.call 25 (.cons (.var 0) (.cons (.bin .add (.var 1) (.con (.int 1))) (.cons (.bin .sub (.var 2) (.con (.int 1))) .nil))))) b_kin) (.nil)) (match b_k5 with | .cons _ (.cons _ (.cons _ (.cons _ t))) => t | _ => .nil)))) := rfl
  rw [u]
  generalize (match b_k5 with | .cons _ (.cons _ (.cons _ (.cons _ t))) => t | _ => .nil) = tl
  simp -implicitDefEqProofs [a3, a4, a5, a6, h11, e, hq]
theorem kin_eq : b_kin = .cons (.ite (.cmp .eq (.var 3) (.con (.int 7))) (.cons (.asg 6 (.tup (.cons (.con (.str "row")) (.cons (.tup (.cons (.tup (.cons (.con (.str "free")) (.cons (.var 1) .nil))) (.cons (.tup (.cons (.con (.str "not")) (.cons (.con (.int 0)) (.cons (.tup (.cons (.tup (.cons (.con (.str "free")) (.cons (.var 1) .nil))) (.cons (.tup (.cons (.con (.str "not")) (.cons (.con (.int 0)) (.cons (.tup (.cons (.var 6) .nil)) .nil)))) .nil))) .nil)))) .nil))) .nil)))) .nil) (.nil)) (.cons (.ite (.cmp .eq (.var 3) (.con (.int 8))) (.cons (.asg 6 (.tup (.cons (.con (.str "one")) (.cons (.tup (.cons (.tup (.cons (.con (.str "row")) (.cons (.tup (.nil)) .nil))) (.cons (.tup (.cons (.con (.str "row")) (.cons (.tup (.cons (.var 6) (.cons (.tup (.cons (.con (.str "free")) (.cons (.var 1) .nil))) .nil))) .nil))) .nil))) .nil)))) .nil) (.nil)) (.cons (.ite (.and (.cmp .eq (.var 3) (.con (.int 10))) (.cons (.cmp .eq (.idx (.var 6) (.con (.int 0))) (.con (.str "free"))) .nil)) (.cons (.asg 6 (.tup (.cons (.con (.str "not")) (.cons (.con (.int 0)) (.cons (.tup (.cons (.var 6) .nil)) .nil))))) .nil) (.nil)) (.cons (.ret (.tup (.cons (.idx (.lst (.cons (.con (.str "some")) (.cons (.con (.str "rec")) (.cons (.con (.str "some")) (.cons (.con (.str "rec")) .nil))))) (.bin .sub (.var 3) (.con (.int 7)))) (.cons (.call 24 (.cons (.var 6) (.cons (.con (.int 0)) (.cons (.var 1) .nil)))) .nil)))) .nil))) := rfl
theorem at4 {a b c d : D} : L2.atI [a, b, c, d] (7 - 7) = some a ∧ L2.atI [a, b, c, d] (8 - 7) = some b ∧ L2.atI [a, b, c, d] (9 - 7) = some c ∧ L2.atI [a, b, c, d] (10 - 7) = some d := ⟨rfl, rfl, rfl, rfl⟩
/-- what the four ways make of the inside -/
def K7 (f : Nat) (k : Kd) : Kd := .mn .row (.cons .non (.free f) (.cons .non (.mn (.not 0) (.cons .non (.free f) (.cons .non (.mn (.not 0) (.cons .non k .nil)) .nil))) .nil))
def K8 (f : Nat) (k : Kd) : Kd := .mn .one (.cons .non (.mn .row .nil) (.cons .non (.mn .row (.cons .non k (.cons .non (.free f) .nil))) .nil))
def K10 (k : Kd) : Kd := match k with
  | .free n => .mn (.not 0) (.cons .non (.free n) .nil)
  | k => k
theorem K7_gk {k : Kd} (g : Gk (f + 1) 0 d k) : (K7 f k).ok TW (f + 1) 0 ∧ (K7 f k).tw ∧ (K7 f k).nt ∧ (K7 f k).dw ≤ 7 * d + 7 ∧ (K7 f k).cw ≤ 13 * d + 13 := by
  have h1 := g.dw
  have h2 := g.cw
  have h3 := dw_pos k
  have h4 := cw_pos k
  have wn : Str.ofString "not" ∈ TW := by simp [TW]
  refine ⟨⟨by simp [TW], Nat.zero_le _, trivial, Nat.lt_succ_self f, ⟨wn, Nat.zero_le _, trivial, Nat.lt_succ_self f, ⟨wn, Nat.zero_le _, trivial, g.ok, trivial⟩, trivial⟩, trivial⟩, ⟨by show 2 ≤ 900; omega, trivial, ⟨by show 2 ≤ 900; omega, trivial, ⟨by show 1 ≤ 900; omega, g.tw, trivial⟩, trivial⟩, trivial⟩, ⟨rfl, trivial, rfl, ⟨rfl, trivial, rfl, ⟨rfl, g.nt, trivial⟩, trivial⟩, trivial⟩, ?_, ?_⟩
  · simp only [K7, Kd.dw, Ks.dw]; omega
  · simp only [K7, Kd.cw, Ks.cw]; omega
theorem K8_gk {k : Kd} (g : Gk (f + 1) 0 d k) : (K8 f k).ok TW (f + 1) 0 ∧ (K8 f k).tw ∧ (K8 f k).nt ∧ (K8 f k).dw ≤ 7 * d + 7 ∧ (K8 f k).cw ≤ 13 * d + 13 := by
  have h1 := g.dw
  have h2 := g.cw
  have h3 := dw_pos k
  have h4 := cw_pos k
  have wr : Str.ofString "row" ∈ TW := by simp [TW]
  refine ⟨⟨by simp [TW], Nat.zero_le _, (by show 0 < 2; omega), ⟨wr, Nat.zero_le _, trivial, trivial⟩, ⟨wr, Nat.zero_le _, trivial, g.ok, Nat.lt_succ_self f, trivial⟩, trivial⟩, ⟨by show 2 ≤ 900; omega, ⟨by show 0 ≤ 900; omega, trivial⟩, ⟨by show 2 ≤ 900; omega, g.tw, trivial, trivial⟩, trivial⟩, ⟨rfl, trivial, rfl, ⟨rfl, g.nt, rfl, trivial, trivial⟩, trivial⟩, ?_, ?_⟩
  · simp only [K8, Kd.dw, Ks.dw]; omega
  · simp only [K8, Kd.cw, Ks.cw]; omega
theorem K10_gk {k : Kd} (g : Gk (f + 1) 0 d k) : (K10 k).ok TW (f + 1) 0 ∧ (K10 k).tw ∧ (K10 k).nt ∧ (K10 k).dw ≤ 7 * d + 7 ∧ (K10 k).cw ≤ 13 * d + 13 ∧ hdV (K10 k).d = false := by
  have h1 := g.dw
  have h2 := g.cw
  have a1 : k.dw ≤ 7 * d + 7 := by omega
  have a2 : k.cw ≤ 13 * d + 13 := by omega
  cases k with
  | free n =>
    refine ⟨⟨by simp [TW], Nat.zero_le _, trivial, g.ok, trivial⟩, ⟨by show 1 ≤ 900; omega, trivial, trivial⟩, ⟨rfl, trivial, trivial⟩, ?_, ?_, by simp [K10, Kd.d, hdV]⟩
    · simp only [K10, Kd.dw, Ks.dw]; omega
    · simp only [K10, Kd.cw, Ks.cw]; omega
  | var n => exact absurd (show n < 0 from g.ok) (Nat.not_lt_zero n)
  | int => exact ⟨g.ok, g.tw, g.nt, a1, a2, rfl⟩
  | un w k => exact ⟨g.ok, g.tw, g.nt, a1, a2, by cases w <;> simp [K10, Kd.d, hdV]⟩
  | mn m k => exact ⟨g.ok, g.tw, g.nt, a1, a2, by cases m <;> simp [K10, Kd.d, hdV]⟩
  | to n k l => exact ⟨g.ok, g.tw, g.nt, a1, a2, by simp [K10, Kd.d, hdV]⟩
theorem kin_7 {k : Kd} (g : Gk (f + 1) 0 d k) (hf : 7 * d + 7 ≤ fu) (dp : D) (sz : Option D) :
    evSs (F (fu + 2)) G b_kin [some (.ref 1), some (.int f), some dp, some (.int 7), sz, none, some k.d, none, none, none] h = .ret (Kd.un .som ((K7 f k).tr (shG f) 0)).d h := by
  obtain ⟨o, tw, nt, dw, cw⟩ := K7_gk g
  have e := sh_run (h := h) o tw dw hf
  show _ = RS.ret (.tup [.str "some", ((K7 f k).tr (shG f) 0).d]) h
  generalize (K7 f k).tr (shG f) 0 = R at e ⊢
  simp only [K7, Kd.d, Ks.ds, Int.natCast_zero] at e
  rw [kin_eq]
  simp -implicitDefEqProofs [at4, e]
theorem kin_8 {k : Kd} (g : Gk (f + 1) 0 d k) (hf : 7 * d + 7 ≤ fu) (dp : D) (sz : Option D) :
    evSs (F (fu + 2)) G b_kin [some (.ref 1), some (.int f), some dp, some (.int 8), sz, none, some k.d, none, none, none] h = .ret (Kd.un .re ((K8 f k).tr (shG f) 0)).d h := by
  obtain ⟨o, tw, nt, dw, cw⟩ := K8_gk g
  have e := sh_run (h := h) o tw dw hf
  show _ = RS.ret (.tup [.str "rec", ((K8 f k).tr (shG f) 0).d]) h
  generalize (K8 f k).tr (shG f) 0 = R at e ⊢
  simp only [K8, Kd.d, Ks.ds, Int.natCast_zero] at e
  rw [kin_eq]
  simp -implicitDefEqProofs [at4, e]
theorem kin_9 {k : Kd} (g : Gk (f + 1) 0 d k) (hf : 7 * d + 7 ≤ fu) (dp : D) (sz : Option D) :
    evSs (F (fu + 2)) G b_kin [some (.ref 1), some (.int f), some dp, some (.int 9), sz, none, some k.d, none, none, none] h = .ret (Kd.un .som (k.tr (shG f) 0)).d h := by
  have e := sh_run (h := h) (d := d) g.ok g.tw (by have := g.dw; omega) hf
  show _ = RS.ret (.tup [.str "some", (k.tr (shG f) 0).d]) h
  generalize k.tr (shG f) 0 = R at e ⊢
  rw [kin_eq]
  simp -implicitDefEqProofs [at4, e]
theorem kin_10 {k : Kd} (g : Gk (f + 1) 0 d k) (hf : 7 * d + 7 ≤ fu) (dp : D) (sz : Option D) :
    evSs (F (fu + 2)) G b_kin [some (.ref 1), some (.int f), some dp, some (.int 10), sz, none, some k.d, none, none, none] h = .ret (Kd.un .re ((K10 k).tr (shG f) 0)).d h := by
  obtain ⟨o, tw, nt, dw, cw, _⟩ := K10_gk g
  have e := sh_run (h := h) o tw dw hf
  show _ = RS.ret (.tup [.str "rec", ((K10 k).tr (shG f) 0).d]) h
  generalize (K10 k).tr (shG f) 0 = R at e ⊢
  rw [kin_eq]
  by_cases hn : Kd.nm k = Str.ofString "free"
  · cases k with
    | free n =>
      simp only [K10, Kd.d, Ks.ds, Int.natCast_zero] at e
      simp -implicitDefEqProofs [at4, e, Kd.d]
    | un w k => exact absurd hn (by rw [nm_free rfl]; exact id)
    | mn m k => exact absurd hn (by rw [nm_free rfl]; exact id)
    | to n k l => exact absurd hn (by rw [nm_free rfl]; exact id)
    | _ => simp [Kd.nm] at hn
  · have ek : K10 k = k := by cases k <;> first | rfl | exact absurd rfl hn
    rw [ek] at e
    simp -implicitDefEqProofs [at4, e, idx0, hn]
theorem tail_in (i : Inv rest h) (ih : KSpec d (fu + 2)) (hu : f + 6 * (d + 1) ≤ 1000) (hf : 7 * d + 7 ≤ fu) {way sz : Int} (h7 : 7 ≤ way) (h11 : way < 11) (N : Nat) :
    ∃ (kd : Kd) (h' : Hh), finR false N (evSs (F (fu + 2)) G b_k5 (Ke f ((d : Int) + 1) way (some (.int sz))) h) = .ok kd.d h' ∧ Inv rest h' ∧ Gk f 0 (d + 1) kd := by
  obtain ⟨k, h1, e1, i1, g⟩ := ih rest h (f + 1) (by omega) i
  have e1' : C (fu + 1 + 1) n__law_some_kind [.ref 1, .int ((f : Int) + 1), .int ((d : Int) + 1 - 1)] h = .ok k.d h1 := by
    rw [show (d : Int) + 1 - 1 = (d : Int) by omega]
    simpa only [Int.natCast_add, Int.natCast_one] using e1
  have hw : way = 7 ∨ way = 8 ∨ way = 9 ∨ way = 10 := by omega
  rcases hw with rfl | rfl | rfl | rfl
  · obtain ⟨o, tw, nt, dw, cw⟩ := K7_gk g
    exact ⟨_, h1, b_k5_in f _ _ _ h7 h11 e1' (kin_7 g hf _ _) N, i1, fin_gk (.inl rfl) o tw nt dw cw fun e => nomatch e⟩
  · obtain ⟨o, tw, nt, dw, cw⟩ := K8_gk g
    exact ⟨_, h1, b_k5_in f _ _ _ h7 h11 e1' (kin_8 g hf _ _) N, i1, fin_gk (.inr rfl) o tw nt dw cw fun _ => by simp [K8, Kd.d, hdV]⟩
  · exact ⟨_, h1, b_k5_in f _ _ _ h7 h11 e1' (kin_9 g hf _ _) N, i1, fin_gk (.inl rfl) g.ok g.tw g.nt (by have := g.dw; omega) (by have := g.cw; omega) fun e => nomatch e⟩
  · obtain ⟨o, tw, nt, dw, cw, hv⟩ := K10_gk g
    exact ⟨_, h1, b_k5_in f _ _ _ h7 h11 e1' (kin_10 g hf _ _) N, i1, fin_gk (.inr rfl) o tw nt dw cw fun _ => hv⟩
/-- a drawn kind is a good one -/
theorem kind_ok : ∀ (deep n : Nat), 8 * deep ≤ n → KSpec deep (n + 2)
  | 0, n, _, rest, h, f, hu, i => by
    obtain ⟨v, h1, e1, v0, v1, i1⟩ := drop_ok (k := n) i (many := 3) (by omega) (by omega)
    have hw : v = 0 ∨ v = 1 ∨ v = 2 := by omega
    obtain ⟨kd, h2, e2, i2, g⟩ := tail_leaf (fu := n) i1 0 (by omega) hw h.length
    refine ⟨kd, h2, ?_, i2, g⟩
    rw [C__law_some_kind, b_k_eq]
    simp -implicitDefEqProofs only [Int.natCast_zero]
    simp -implicitDefEqProofs [e1]
    exact e2
  | d + 1, 0, hn, _, _, _, _, _ => absurd hn (by omega)
  | d + 1, n + 1, hn, rest, h, f, hu, i => by
    obtain ⟨v, h1, e1, v0, v1, i1⟩ := drop_ok (k := n + 1) i (many := 12) (by omega) (by omega)
    have ih := kind_ok d n (by omega)
    have fin : ∀ {kd : Kd} {h' : Hh}, finR false h.length (evSs (F (n + 2)) G b_k1 (Ke f ((d : Int) + 1) v none) h1) = .ok kd.d h' → C (n + 3) n__law_some_kind [.ref 1, .int (f : Int), .int ((d + 1 : Nat) : Int)] h = .ok kd.d h' := by
      intro kd h' e
      rw [C__law_some_kind, b_k_eq, Int.natCast_add, Int.natCast_one]
      have hp : (0 : Int) < (d : Int) + 1 := by omega
      simp -implicitDefEqProofs [e1, hp]
      exact e
    by_cases h3 : v < 3
    · obtain ⟨kd, h2, e2, i2, g⟩ := tail_leaf (fu := n + 1) i1 ((d : Int) + 1) (f := f) (by omega) (way := v) (by omega) h.length
      exact ⟨kd, h2, fin e2, i2, g.up (Nat.le_refl _) (Nat.le_refl _) (Nat.zero_le _)⟩
    · have t4 := to_k4 (fu := n + 1) (h := h1) (f := f) (way := v) (by omega) ((d : Int) + 1)
      obtain ⟨kd, h2, e2, i2, g⟩ := to_k5 (fu := n + 1) (f := f) i1 ((d : Int) + 1) v h.length (Gk f 0 (d + 1)) fun sz hs h2 i2 => by
        have hw : (v = 3 ∨ v = 4) ∨ v = 5 ∨ v = 6 ∨ (7 ≤ v ∧ v < 11) ∨ v = 11 := by omega
        rcases hw with hw | hw | hw | hw | hw
        · exact tail_row i2 ih hu hw hs _
        · subst hw; exact tail_one i2 ih hu hs _
        · subst hw; exact tail_cell i2 ih hu _ _
        · exact tail_in i2 ih hu (by omega) hw.1 hw.2 _
        · subst hw; exact tail_not i2 ih hu (by omega) hs _
      exact ⟨kd, h2, fin (by rw [t4]; exact e2), i2, g⟩
end
end K32
end

section
set_option maxRecDepth 100000
namespace K32
open PySem PV Kn
/-! ### _law_alike -/
section
variable {h : Hh}
theorem rngD_get (n k : Nat) : (rngD 0 (n : Int))[k]? = if k < n then some (.int (k : Int)) else none := by
  unfold rngD
  rw [List.getElem?_map]
  simp only [Int.sub_zero, Int.toNat_natCast]
  split
  · rename_i hk; rw [List.getElem?_range hk]; simp
  · rename_i hk; rw [List.getElem?_eq_none (by simp; omega)]; rfl
theorem ne_bls (a b c d e f : Bool) : opCmp .ne h (.lst [.bl a, .bl b, .bl c, .bl d, .bl e, .bl f]) (.lst [.bl a, .bl b, .bl c, .bl d, .bl e, .bl f]) = some false := by
  cases a <;> cases b <;> cases c <;> cases d <;> cases e <;> cases f <;> rfl
theorem kinds_ok (k : Nat) (d : D) (hf : d.isF = false) : C (k + 1) n__law_kinds [d] h = .ok (.lst [.bl (opIsi .bl h d), .bl (opIsi .int h d), .bl (opIsi .str h d), .bl (opIsi .tup h d), .bl (opIsi .lst h d), .bl d.isNon]) h := by
  have e : opCmp .is h d .non = some d.isNon := by cases d <;> rfl
  simp -implicitDefEqProofs [C__law_kinds, hf, e]
theorem alike_ok : ∀ (n : Nat) (d : D), pl d = true → d.dep ≤ n → C (n + 2) n__law_alike [d, d] h = .ok (.bl true) h
  | n, .non, _, _ => by
    have e := kinds_ok (h := h) n .non rfl
    simp -implicitDefEqProofs [C__law_alike, e, ne_bls, isi2Op, opIsi, D.isF]; rfl
  | n, .bl b, _, _ => by
    have e := kinds_ok (h := h) n (.bl b) rfl
    simp -implicitDefEqProofs [C__law_alike, e, ne_bls, isi2Op, opIsi, D.isF]
  | n, .int i, _, _ => by
    have e := kinds_ok (h := h) n (.int i) rfl
    simp -implicitDefEqProofs [C__law_alike, e, ne_bls, isi2Op, opIsi, D.isF]
  | n, .str x, _, _ => by
    have e := kinds_ok (h := h) n (.str x) rfl
    simp -implicitDefEqProofs [C__law_alike, e, ne_bls, isi2Op, opIsi, D.isF]
  | n + 1, .tup xs, hp, hd => by
    simp only [pl, Bool.and_eq_true, decide_eq_true_eq] at hp
    have hr : rngOk 0 (xs.length : Int) = true := K32.rng_ok (by omega) (by omega)
    have hz : (rngD 0 (xs.length : Int)).length ≤ 16777216 := by rw [rngD_len]; omega
    have l := PW.lcT (h := h) (turn := lcTurn (.v 2) (evE (F (n + 2)) G c__law_alike_0) (evE (F (n + 2)) G x__law_alike_0) [some (.tup xs), some (.tup xs), none]) (xs := rngD 0 (xs.length : Int)) (acc := []) (fun x hx => by
      obtain ⟨k, hk⟩ := List.mem_iff_getElem?.mp hx
      rw [rngD_get] at hk
      split at hk
      · rename_i hk2
        cases hk
        have e : L2.atI xs (k : Int) = some xs[k] := L2.atI_nat (List.getElem?_eq_getElem hk2)
        have e2 := alike_ok n xs[k] (pls_iff.mp hp.2 _ (List.getElem_mem hk2)) (P64.subd hd (List.getElem_mem hk2))
        simp [e, e2]
      · cases hk)
    have ar := PW.all_rep (h := h) (rngD 0 (xs.length : Int)).length
    have ek := kinds_ok (h := h) (n + 1) (.tup xs) rfl
    simp -implicitDefEqProofs [C__law_alike, ek, ne_bls, isi2Op, opIsi, D.isF, hr, hz, l, ar]
  | n + 1, .lst xs, hp, hd => by
    simp only [pl, Bool.and_eq_true, decide_eq_true_eq] at hp
    have hr : rngOk 0 (xs.length : Int) = true := K32.rng_ok (by omega) (by omega)
    have hz : (rngD 0 (xs.length : Int)).length ≤ 16777216 := by rw [rngD_len]; omega
    have l := PW.lcT (h := h) (turn := lcTurn (.v 2) (evE (F (n + 2)) G c__law_alike_0) (evE (F (n + 2)) G x__law_alike_0) [some (.lst xs), some (.lst xs), none]) (xs := rngD 0 (xs.length : Int)) (acc := []) (fun x hx => by
      obtain ⟨k, hk⟩ := List.mem_iff_getElem?.mp hx
      rw [rngD_get] at hk
      split at hk
      · rename_i hk2
        cases hk
        have e : L2.atI xs (k : Int) = some xs[k] := L2.atI_nat (List.getElem?_eq_getElem hk2)
        have e2 := alike_ok n xs[k] (pls_iff.mp hp.2 _ (List.getElem_mem hk2)) (P64.subd hd (List.getElem_mem hk2))
        simp [e, e2]
      · cases hk)
    have ar := PW.all_rep (h := h) (rngD 0 (xs.length : Int)).length
    have ek := kinds_ok (h := h) (n + 1) (.lst xs) rfl
    simp -implicitDefEqProofs [C__law_alike, ek, ne_bls, isi2Op, opIsi, D.isF, hr, hz, l, ar]
  | 0, .tup xs, _, hd => by simp [D.dep] at hd
  | 0, .lst xs, _, hd => by simp [D.dep] at hd
end
/-! ### the spring -/
theorem filt (ns : List Int) : (ns.filterMap fun z => if (1000000000000000000 : Int) ≤ z then some (D.int (z - 1000000000000000000)) else none) = (ns.filterMap fun z => if (1000000000000000000 : Int) ≤ z then some (z - 1000000000000000000) else none).map D.int := by
  induction ns with
  | nil => rfl
  | cons z r ih =>
    by_cases hz : (1000000000000000000 : Int) ≤ z <;> simp [List.filterMap_cons, hz, ih]
theorem spring_ok {k : Nat} (ns : List Int) (hn : ns.length ≤ 63) : ∃ h, C (k + 1) n__law_spring [.fz (ns.map .int)] [] = .ok (.ref 1) h ∧ Inv [] h := by
  have l := fun r1 r3 => PW.lcFm (turn := lcTurn (.v 2) (evE (F k) G c__law_spring_0) (evE (F k) G x__law_spring_0) [some (.fz (ns.map .int)), r1, none, r3]) (h := []) (acc := []) D.int (fun z : Int => if (1000000000000000000 : Int) ≤ z then some (D.int (z - 1000000000000000000)) else none) (zs := ns) (fun z _ => by
    by_cases hz : (1000000000000000000 : Int) ≤ z
    · simp [PW.pow18, hz]
    · simp [PW.pow18, hz])
  simp only [filt, List.nil_append] at l
  have gl : (ns.filterMap fun z => if (1000000000000000000 : Int) ≤ z then some (z - 1000000000000000000) else none).length ≤ 1000 := Nat.le_trans (List.length_filterMap_le _ _) (by omega)
  have g0 : ∀ g ∈ (ns.filterMap fun z => if (1000000000000000000 : Int) ≤ z then some (z - 1000000000000000000) else none), 0 ≤ g := by
    intro g hg
    obtain ⟨z, _, e⟩ := List.mem_filterMap.mp hg
    split at e
    · cases e; omega
    · cases e
  generalize (ns.filterMap fun z => if (1000000000000000000 : Int) ≤ z then some (z - 1000000000000000000) else none) = gs at l gl g0
  obtain ⟨ρ', h', e, c', m, q1, q2, q3, q4⟩ := PW.forG (t := .v 2) (body := evSs (F k) G (.cons (.asg 3 (.bin .mod (.bf .int (.cons (.bin .add (.bin .add (.bin .mul (.var 3) (.con (.int 982451653))) (.bin .mul (.var 2) (.con (.int 49979687)))) (.con (.int 32452843))) .nil)) (.con (.int 2305843009213693951)))) .nil))
    (fun ρ h => ∃ c m, ρ = [some (.fz (ns.map .int)), some (.ref 0), c, some (.int m)] ∧ h = [.lst (gs.map .int)] ∧ 0 ≤ m ∧ m < 2305843009213693951) (xs := ns.map .int) (ρ := [some (.fz (ns.map .int)), some (.ref 0), none, some (.int (15485863 + 2 * ns.length))]) (h := [.lst (gs.map .int)]) ⟨none, _, rfl, rfl, by omega, by omega⟩ (by
      rintro x hx ρ h ⟨c, m, rfl, rfl, m0, m1⟩
      obtain ⟨z, _, rfl⟩ := List.mem_map.mp hx
      have a1 : mulOk m 982451653 = true := PW.mulOk_r (by omega) (by omega)
      have a2 : mulOk z 49979687 = true := PW.mulOk_r (by omega) (by omega)
      refine ⟨_, [some (.fz (ns.map .int)), some (.ref 0), some (.int z), some (.int ((m * 982451653 + z * 49979687 + 32452843) % 2305843009213693951))], _, rfl, by simp [PW.bin_mul a1, PW.bin_mul a2, PW.bin_mod], _, _, rfl, rfl, Int.emod_nonneg _ (by omega), Int.emod_lt_of_pos _ (by omega)⟩)
  subst q1 q2
  have hz : ns.length ≤ 16777216 := by omega
  have a3 : mulOk 2 (ns.length : Int) = true := PW.mulOk_l (by omega) (by omega)
  refine ⟨Sp gs m 0 [], ?_, gs, m, 0, rfl, ⟨g0, q3, q4, by omega, gl⟩⟩
  simp -implicitDefEqProofs [C__law_spring, l, hz, PV.newObj, PW.bin_mul a3, e, Sp]
/-! ### data that a kind may be bent to -/
mutual
def q9 : D → Bool
  | .non => true
  | .bl _ => true
  | .int i => decide (i < (EL : Int))
  | .str x => PyData.strOk x
  | .tup xs => decide (xs.length ≤ 900) && q9s xs
  | .lst xs => decide (xs.length ≤ 900) && q9s xs
  | _ => false
def q9s : List D → Bool
  | [] => true
  | x :: xs => q9 x && q9s xs
end
theorem q9s_iff : ∀ {xs : List D}, q9s xs = true ↔ ∀ x ∈ xs, q9 x = true
  | [] => by simp [q9s]
  | x :: xs => by simp [q9s, q9s_iff (xs := xs)]
mutual
theorem q9_pl : ∀ d : D, q9 d = true → pl d = true
  | .non, _ => rfl
  | .bl _, _ => rfl
  | .int _, _ => rfl
  | .str _, h => h
  | .tup xs, h => by simp only [q9, Bool.and_eq_true, decide_eq_true_eq] at h; simp only [pl, Bool.and_eq_true, decide_eq_true_eq]; exact ⟨by omega, q9s_pls xs h.2⟩
  | .lst xs, h => by simp only [q9, Bool.and_eq_true, decide_eq_true_eq] at h; simp only [pl, Bool.and_eq_true, decide_eq_true_eq]; exact ⟨by omega, q9s_pls xs h.2⟩
  | .ref _, h => by cases h
  | .fz _, h => by cases h
  | .ftup _, h => by cases h
  | .exc _, h => by cases h
  | .exf _ _ _, h => by cases h
theorem q9s_pls : ∀ xs : List D, q9s xs = true → pls xs = true
  | [], _ => rfl
  | x :: xs, h => by
    simp only [q9s, Bool.and_eq_true] at h
    simp only [pls, Bool.and_eq_true]
    exact ⟨q9_pl x h.1, q9s_pls xs h.2⟩
end
theorem EL_big : 1000000 < EL := by decide +kernel
mutual
theorem kd_q9 {f : Nat} (hf : f ≤ EL) : ∀ (k : Kd) (u : Nat), k.ok TW f u → k.tw → u + 10000 * k.dep ≤ 999999 → q9 k.d = true
  | .int, u, _, _, _ => by simp [Kd.d, q9, q9s]
  | .free v, u, h, _, _ => by
    have h : v < f := h
    have : (v : Int) < (EL : Int) := by omega
    simp [Kd.d, q9, q9s, this]
  | .var v, u, h, _, hb => by
    have h : v < u := h
    have := EL_big
    have : (v : Int) < (EL : Int) := by omega
    simp [Kd.d, q9, q9s, this]
  | .un w k, u, h, ht, hb => by
    have ih := kd_q9 hf k (u + w.bn) h.2.2 ht (by simp only [Kd.dep] at hb; cases w <;> simp only [Un.bn] <;> omega)
    cases w <;> simp [Kd.d, q9, q9s, ih]
  | .mn m ks, u, h, ht, hb => by
    have h1 := h.1
    have ih := ks_q9 hf ks (u + m.bn) h.2.2.2 ht.2 (by have := h.2.1; simp only [Kd.dep] at hb; omega)
    have hz := ht.1
    have hb2 := h.2.1
    have := EL_big
    cases m with
    | row => simp [Kd.d, q9, q9s, ih, hz]
    | one => simp [Kd.d, q9, q9s, ih, hz]
    | not b =>
      have hb2 : b ≤ 10000 := hb2
      have : (b : Int) < (EL : Int) := by omega
      simp [Kd.d, q9, q9s, ih, hz]; omega
    | room => simp [TW] at h1
    | code b => simp [TW] at h1
  | .to n ks l, u, h, _, _ => absurd h.1 (by simp [TW])
theorem ks_q9 {f : Nat} (hf : f ≤ EL) : ∀ (ks : Ks) (u : Nat), ks.ok TW f u → ks.tw → u + 10000 * ks.dep ≤ 999999 → q9s ks.ds = true
  | .nil, _, _, _, _ => rfl
  | .cons b k r, u, h, ht, hb => by
    show (q9 k.d && q9s r.ds) = true
    rw [kd_q9 hf k u h.1 ht.1 (by simp only [Ks.dep] at hb; omega), ks_q9 hf r u h.2 ht.2 (by simp only [Ks.dep] at hb; omega)]; rfl
end
/-- what is a kind is one -/
theorem kds_of {P : D → Prop} {Q : Kd → Prop} {xs : List D} (hx : ∀ x ∈ xs, P x) (ih : ∀ x ∈ xs, P x → ∃ k, x = Kd.d k ∧ Q k) : ∃ ks : List Kd, xs = ks.map Kd.d ∧ (∀ k ∈ ks, Q k) := by
  induction xs with
  | nil => exact ⟨[], rfl, by simp⟩
  | cons x r ihr =>
    obtain ⟨k, e, q⟩ := ih x List.mem_cons_self (hx x List.mem_cons_self)
    obtain ⟨ks, e2, q2⟩ := ihr (fun y hy => hx y (List.mem_cons_of_mem _ hy)) fun y hy => ih y (List.mem_cons_of_mem _ hy)
    refine ⟨k :: ks, by rw [e, e2]; rfl, ?_⟩
    intro y hy
    (rcases List.mem_cons.mp hy with rfl | hy)
    · exact q
    · exact q2 y hy
structure Kg (u : Nat) (k : Kd) : Prop where
  ok : k.ok TW EL u
  tw : k.tw
theorem of_kg {u : Nat} : ∀ {ks : List Kd}, (∀ k ∈ ks, Kg u k) → (Ks.of ks).ok TW EL u ∧ (Ks.of ks).tw
  | [], _ => ⟨trivial, trivial⟩
  | k :: r, h => by
    have h1 := h k List.mem_cons_self
    have h2 := of_kg fun c hc => h c (List.mem_cons_of_mem _ hc)
    exact ⟨⟨h1.ok, h2.1⟩, ⟨h1.tw, h2.2⟩⟩
theorem q9_tup {xs : List D} (h : q9 (.tup xs) = true) : xs.length ≤ 900 ∧ ∀ x ∈ xs, q9 x = true := by
  simp only [q9, Bool.and_eq_true, decide_eq_true_eq] at h
  exact ⟨h.1, q9s_iff.mp h.2⟩
theorem kd_of : ∀ (n : Nat) (u : Nat) (d : D), isK TW (EL : Int) n (u : Int) d = true → q9 d = true → ∃ k, d = Kd.d k ∧ Kg u k
  | 0, _, _, h, _ => by cases h
  | n + 1, u, d, h, hq => by
    unfold isK at h
    split at h
    · cases ‹_ = Nat.zero›
    · rename_i w rest e
      cases e
      (simp only [Bool.and_eq_true] at h)
      obtain ⟨⟨h1, h2⟩, h3⟩ := h
      have fm := form_fm h2
      have hr : ∀ y ∈ rest, q9 y = true := fun y hy => (q9_tup hq).2 y (List.mem_cons_of_mem _ hy)
      cases fm with
      | int => exact ⟨.int, rfl, by show Str.ofString "int" ∈ TW; simp [TW], trivial⟩
      | free m h0 =>
        obtain ⟨v, rfl⟩ : ∃ v : Nat, m = (v : Int) := ⟨m.toNat, by omega⟩
        simp [numD] at h3
        exact ⟨.free v, rfl, by show v < EL; omega, trivial⟩
      | var m h0 =>
        obtain ⟨v, rfl⟩ : ∃ v : Nat, m = (v : Int) := ⟨m.toNat, by omega⟩
        simp [numD] at h3
        exact ⟨.var v, rfl, by show v < u; omega, trivial⟩
      | cell x hx =>
        simp [inn, bnn] at h3
        obtain ⟨k, rfl, g⟩ := kd_of n u x h3 (hr x (by simp))
        exact ⟨.un .cel k, rfl, ⟨by simp [TW], (fun e => nomatch e), g.ok⟩, g.tw⟩
      | some x hx =>
        simp [inn, bnn] at h3
        obtain ⟨k, rfl, g⟩ := kd_of n (u + 1) x (by simpa using h3) (hr x (by simp))
        exact ⟨.un .som k, rfl, ⟨by simp [TW], (fun e => nomatch e), g.ok⟩, g.tw⟩
      | rec_ x hx hv =>
        simp [inn, bnn] at h3
        obtain ⟨k, rfl, g⟩ := kd_of n (u + 1) x (by simpa using h3) (hr x (by simp))
        exact ⟨.un .re k, rfl, ⟨by simp [TW], (fun _ => hv), g.ok⟩, g.tw⟩
      | row xs ha =>
        simp [inn, bnn, items] at h3
        obtain ⟨hl, hx9⟩ := q9_tup (hr (.tup xs) (by simp))
        obtain ⟨ks, rfl, q⟩ := kds_of (P := fun x => isK TW (EL : Int) n (u : Int) x = true ∧ q9 x = true) (Q := Kg u) (xs := xs) (fun x hx => ⟨h3 x hx, hx9 x hx⟩) fun x hx p => kd_of n u x p.1 p.2
        obtain ⟨o, t⟩ := of_kg q
        exact ⟨.mn .row (Ks.of ks), by simp only [Kd.d, of_ds], ⟨by simp [TW], Nat.zero_le _, trivial, o⟩, ⟨by rw [of_len]; simpa using hl, t⟩⟩
      | one xs ha hne =>
        simp [inn, bnn, items] at h3
        obtain ⟨hl, hx9⟩ := q9_tup (hr (.tup xs) (by simp))
        obtain ⟨ks, rfl, q⟩ := kds_of (P := fun x => isK TW (EL : Int) n (u : Int) x = true ∧ q9 x = true) (Q := Kg u) (xs := xs) (fun x hx => ⟨h3 x hx, hx9 x hx⟩) fun x hx p => kd_of n u x p.1 p.2
        obtain ⟨o, t⟩ := of_kg q
        refine ⟨.mn .one (Ks.of ks), by simp only [Kd.d, of_ds], ⟨by simp [TW], Nat.zero_le _, ?_, o⟩, ⟨by rw [of_len]; simpa using hl, t⟩⟩
        show 0 < (Ks.of ks).len
        rw [of_len]
        cases ks with
        | nil => cases hne
        | cons _ _ => simp
      | room xs _ _ => simp [TW] at h1
      | to m xs l _ _ _ _ => simp [TW] at h1
      | code m xs _ _ _ _ => simp [TW] at h1
      | not m xs h0 h10 ha =>
        obtain ⟨b, rfl⟩ : ∃ v : Nat, m = (v : Int) := ⟨m.toNat, by omega⟩
        simp [inn, bnn, items, numD] at h3
        obtain ⟨hl, hx9⟩ := q9_tup (hr (.tup xs) (by simp))
        obtain ⟨ks, rfl, q⟩ := kds_of (P := fun x => isK TW (EL : Int) n ((u + b : Nat) : Int) x = true ∧ q9 x = true) (Q := Kg (u + b)) (xs := xs) (fun x hx => ⟨by simpa using h3 x hx, hx9 x hx⟩) fun x hx p => kd_of n (u + b) x p.1 p.2
        obtain ⟨o, t⟩ := of_kg q
        exact ⟨.mn (.not b) (Ks.of ks), by simp only [Kd.d, of_ds], ⟨by simp [TW], by show b ≤ 10000; omega, trivial, o⟩, ⟨by rw [of_len]; simpa using hl, t⟩⟩
    · cases h
end K32
end

section
set_option maxRecDepth 100000
namespace K32
open PySem PV Kn
section
variable {h : Hh} {k : Nat}
theorem isK_hd {ws : List Str} {f u : Int} {n : Nat} {d : D} (e : isK ws f n u d = true) : isHd d = true := by
  cases q : isHd d with
  | true => rfl
  | false => rw [isK_not q] at e; cases e
theorem and_hd {ws : List Str} {f u : Int} {n : Nat} {d : D} (c : Bool) : (isHd d && c && isK ws f n u d) = (isK ws f n u d && c) := by
  cases q : isK ws f n u d with
  | false => simp
  | true => rw [isK_hd q]; simp
theorem all_hd {ws : List Str} {f u : Int} {n : Nat} {xs : List D} : (xs.all isHd && xs.all (isK ws f n u)) = xs.all (isK ws f n u) := by
  cases q : xs.all (isK ws f n u) with
  | false => simp
  | true =>
    have : xs.all isHd = true := List.all_eq_true.mpr fun x hx => isK_hd (List.all_eq_true.mp q x hx)
    rw [this]; rfl
theorem in3L (x : Str) (a b c : String) : opCmp .inn h (.str x) (.lst [.str (.ofString a), .str (.ofString b), .str (.ofString c)]) = if PyData.strOk x then some (decide (Str.ofString a = x) || (decide (Str.ofString b = x) || decide (Str.ofString c = x))) else none := in_strs3 (h := h) x a b c
theorem in2L (x : Str) (a b : String) : opCmp .inn h (.str x) (.lst [.str (.ofString a), .str (.ofString b)]) = if PyData.strOk x then some (decide (Str.ofString a = x) || decide (Str.ofString b = x)) else none := in_strs2 (h := h) x a b
theorem nin2L (x : Str) (a b : String) : opCmp .nin h (.str x) (.lst [.str (.ofString a), .str (.ofString b)]) = if PyData.strOk x then some (!(decide (Str.ofString a = x) || decide (Str.ofString b = x))) else none := by
  show Option.map _ (opCmp .inn h (.str x) (.lst [.str (.ofString a), .str (.ofString b)])) = _
  rw [in2L]; split <;> rfl
/-- one step of the law's own reading -/
structure Ih (m n : Nat) (d : D) (k : Nat) (h : Hh) : Prop where
  p : P64 d
  q : q9 d = true
  ih : ∀ x, PN m x → q9 x = true → ∀ u : Int, C k n__law_is_kind [x, .int u] h = .ok (.bl (isK TW (EL : Int) n u x)) h
theorem lik_un {m n : Nat} {u : Int} {w : Str} {rest : List D} (pn : PN (m + 1) (.tup (.str w :: rest))) (I : Ih m n (.tup (.str w :: rest)) k h) (hw : w = "cell" ∨ w = "some" ∨ w = "rec") :
    C (k + 1) n__law_is_kind [.tup (.str w :: rest), .int u] h = .ok (.bl (isK TW (EL : Int) (n + 1) u (.tup (.str w :: rest)))) h := by
  have e1 := eq_nil (h := h) I.p
  have mem : w ∈ TW := by rcases hw with rfl | rfl | rfl <;> simp [TW]
  cases rest with
  | nil => rcases hw with rfl | rfl | rfl <;> simp -implicitDefEqProofs [C__law_is_kind, opIsi, D.isF, e1, put2, rsopt, in2L, in3L, isK, form, one1]
  | cons x r =>
    cases r with
    | cons y r =>
      have hl : ((r.length : Int) + 1 + 1 == 1) = false := beq_eq_false_iff_ne.mpr (by omega)
      have hl2 : ¬ ((r.length : Int) + 1 + 1 = 1) := by omega
      rcases hw with rfl | rfl | rfl <;> simp -implicitDefEqProofs [C__law_is_kind, opIsi, D.isF, e1, put2, rsopt, in2L, in3L, isK, form, one1, hl, hl2]
    | nil =>
      have px : PN m x := pn.sub (by simp)
      have qx : q9 x = true := (q9_tup I.q).2 x (by simp)
      have i0 := I.ih x px qx u
      have i1 := I.ih x px qx (u + 1)
      have ae := and_hd (ws := TW) (f := (EL : Int)) (u := u) (n := n) (d := x) true
      have ae1 := fun c => and_hd (ws := TW) (f := (EL : Int)) (u := u + 1) (n := n) (d := x) c
      rcases hw with rfl | rfl | rfl
      · have r : isK TW (EL : Int) (n + 1) u (.tup [.str "cell", x]) = isK TW (EL : Int) n u x := by
          simp only [Bool.and_true] at ae
          simp [isK, form, one1, inn, bnn, TW]
          simpa [TW] using ae
        rw [r]
        generalize isK TW (EL : Int) n u x = t at i0
        cases t <;> simp -implicitDefEqProofs [C__law_is_kind, opIsi, D.isF, e1, put2, rsopt, in2L, in3L, i0]
      · have r : isK TW (EL : Int) (n + 1) u (.tup [.str "some", x]) = isK TW (EL : Int) n (u + 1) x := by
          have ae := ae1 true
          simp only [Bool.and_true] at ae
          simp [isK, form, one1, inn, bnn, TW]
          simpa [TW] using ae
        rw [r]
        generalize isK TW (EL : Int) n (u + 1) x = t at i1
        cases t <;> simp -implicitDefEqProofs [C__law_is_kind, opIsi, D.isF, e1, put2, rsopt, in2L, in3L, i1]
      · have r : isK TW (EL : Int) (n + 1) u (.tup [.str "rec", x]) = (isK TW (EL : Int) n (u + 1) x && !hdV x) := by
          have ae := ae1 (!hdV x)
          simp [isK, form, one1, inn, bnn, TW]
          simpa [TW] using ae
        rw [r]
        cases t : isK TW (EL : Int) n (u + 1) x with
        | false =>
          rw [t] at i1
          simp -implicitDefEqProofs [C__law_is_kind, opIsi, D.isF, e1, put2, rsopt, in2L, in3L, i1]
        | true =>
          rw [t] at i1
          obtain ⟨w2, r2, rfl⟩ := isHd_inv (isK_hd t)
          have so : PyData.strOk w2 = true := (q9_tup qx).2 (.str w2) (by simp)
          simp -implicitDefEqProofs [C__law_is_kind, opIsi, D.isF, e1, put2, rsopt, in2L, in3L, nin2L, so, i1, hdV]
          simp [eq_comm]
theorem lik_int {m n : Nat} {u : Int} {rest : List D} (I : Ih m n (.tup (.str "int" :: rest)) k h) :
    C (k + 1) n__law_is_kind [.tup (.str "int" :: rest), .int u] h = .ok (.bl (isK TW (EL : Int) (n + 1) u (.tup (.str "int" :: rest)))) h := by
  have e1 := eq_nil (h := h) I.p
  have e2 := eq_nil (h := h) I.p.tl
  have r : isK TW (EL : Int) (n + 1) u (.tup (.str "int" :: rest)) = rest.isEmpty := by simp [isK, form, inn, TW]
  rw [r]
  simp -implicitDefEqProofs [C__law_is_kind, opIsi, D.isF, e1, put2, rsopt, e2]
theorem lik_var {m n : Nat} {u : Int} {w : Str} {rest : List D} (I : Ih m n (.tup (.str w :: rest)) k h) (hw : w = "free" ∨ w = "var") :
    C (k + 1) n__law_is_kind [.tup (.str w :: rest), .int u] h = .ok (.bl (isK TW (EL : Int) (n + 1) u (.tup (.str w :: rest)))) h := by
  have e1 := eq_nil (h := h) I.p
  cases rest with
  | nil => rcases hw with rfl | rfl <;> simp -implicitDefEqProofs [C__law_is_kind, opIsi, D.isF, e1, put2, rsopt, in2L, in3L, isK, form, one1]
  | cons x r =>
    cases r with
    | cons y r =>
      have hl : ((r.length : Int) + 1 + 1 == 1) = false := beq_eq_false_iff_ne.mpr (by omega)
      have hl2 : ¬ ((r.length : Int) + 1 + 1 = 1) := by omega
      rcases hw with rfl | rfl <;> simp -implicitDefEqProofs [C__law_is_kind, opIsi, D.isF, e1, put2, rsopt, in2L, in3L, isK, form, one1, hl, hl2]
    | nil =>
      have qx : q9 x = true := (q9_tup I.q).2 x (by simp)
      have nf : x.isF = false := (I.p.sub (x := x) (by simp)).nf
      cases x with
      | int i =>
        have hb : i < (EL : Int) := by simpa [q9] using qx
        rcases hw with rfl | rfl
        · by_cases h0 : 0 ≤ i <;> simp -implicitDefEqProofs [C__law_is_kind, opIsi, D.isF, e1, put2, rsopt, in2L, in3L, isK, form, one1, isNt, numD, h0, hb]
        · by_cases h0 : 0 ≤ i <;> simp -implicitDefEqProofs [C__law_is_kind, opIsi, D.isF, e1, put2, rsopt, in2L, in3L, isK, form, one1, isNt, numD, h0]
      | ref i => cases qx
      | fz i => cases qx
      | ftup i => cases qx
      | exc i => cases qx
      | exf i j l => cases qx
      | _ => rcases hw with rfl | rfl <;> simp -implicitDefEqProofs [C__law_is_kind, opIsi, D.isF, e1, put2, rsopt, in2L, in3L, isK, form, one1, isNt]
theorem lik_items {m n : Nat} {u u' : Int} {xs : List D} (ih : ∀ x, PN m x → q9 x = true → ∀ u : Int, C k n__law_is_kind [x, .int u] h = .ok (.bl (isK TW (EL : Int) n u x)) h) (pn : ∀ x ∈ xs, PN m x) (q : ∀ x ∈ xs, q9 x = true) (r0 r2 r3 r4 : Option D) :
    lcLoop (fun _ => true) (lcTurn (.v 5) (evE (F k) G c__law_is_kind_0) (evE (F k) G x__law_is_kind_0) [r0, some (.int u), r2, r3, r4, none]) xs [] h = .ok (.lst (xs.map fun x => .bl (isK TW (EL : Int) n u x))) h := by
  refine lcM (acc := []) (fun x => .bl (isK TW (EL : Int) n u x)) fun x hx => ?_
  simp [ih x (pn x hx) (q x hx) u]
theorem lik_row {m n : Nat} {u : Int} {w : Str} {rest : List D} (pn : PN (m + 1) (.tup (.str w :: rest))) (I : Ih m n (.tup (.str w :: rest)) k h) (hw : w = "row" ∨ w = "one") :
    C (k + 1) n__law_is_kind [.tup (.str w :: rest), .int u] h = .ok (.bl (isK TW (EL : Int) (n + 1) u (.tup (.str w :: rest)))) h := by
  have e1 := eq_nil (h := h) I.p
  cases rest with
  | nil => rcases hw with rfl | rfl <;> simp -implicitDefEqProofs [C__law_is_kind, opIsi, D.isF, e1, put2, rsopt, in2L, in3L, isK, form, one1]
  | cons x r =>
    cases r with
    | cons y r =>
      have hl : ((r.length : Int) + 1 + 1 == 1) = false := beq_eq_false_iff_ne.mpr (by omega)
      have hl2 : ¬ ((r.length : Int) + 1 + 1 = 1) := by omega
      rcases hw with rfl | rfl <;> simp -implicitDefEqProofs [C__law_is_kind, opIsi, D.isF, e1, put2, rsopt, in2L, in3L, isK, form, one1, hl, hl2]
    | nil =>
      have qx : q9 x = true := (q9_tup I.q).2 x (by simp)
      have px : P64 x := I.p.sub (x := x) (by simp)
      cases x with
      | tup xs =>
        obtain ⟨hz, q⟩ := q9_tup qx
        have pnx : ∀ y ∈ xs, PN m y := fun y hy => ((pn.sub (x := .tup xs) (by simp)).dn hy).1
        have l := fun r0 r2 r4 => lik_items (u := u) (u' := u) I.ih pnx q r0 r2 (some (.tup [.tup xs])) r4
        have e2 := ne_nil (h := h) px
        have hz' : xs.length ≤ 16777216 := by omega
        have am := all_map (h := h) (fun x => isK TW (EL : Int) n u x) xs
        have ah := all_hd (ws := TW) (f := (EL : Int)) (u := u) (n := n) (xs := xs)
        rcases hw with rfl | rfl
        · have r : isK TW (EL : Int) (n + 1) u (.tup [.str "row", .tup xs]) = xs.all (isK TW (EL : Int) n u) := by
            rw [← ah]
            simp [isK, form, one1, inn, bnn, TW, isHds, items, -List.all_eq_true]
          rw [r]
          simp -implicitDefEqProofs [C__law_is_kind, opIsi, D.isF, e1, put2, rsopt, in2L, in3L, l, hz', am, -List.all_eq_true]
        · cases xs with
          | nil => simp -implicitDefEqProofs [C__law_is_kind, opIsi, D.isF, e1, put2, rsopt, in2L, in3L, e2, isK, form, one1, isHds, items]
          | cons y ys =>
            have r : isK TW (EL : Int) (n + 1) u (.tup [.str "one", .tup (y :: ys)]) = (y :: ys).all (isK TW (EL : Int) n u) := by
              rw [← ah]
              simp [isK, form, one1, inn, bnn, TW, isHds, items, -List.all_eq_true, -List.all_cons]
            rw [r]
            rw [show (y :: ys).isEmpty = false from rfl] at e2
            generalize (y :: ys) = xs at hz' l am e1 e2 ⊢
            simp -implicitDefEqProofs [C__law_is_kind, opIsi, D.isF, e1, put2, rsopt, in2L, in3L, l, hz', am, e2, -List.all_eq_true]
      | ref i => cases qx
      | fz i => cases qx
      | ftup i => cases qx
      | exc i => cases qx
      | exf i j l => cases qx
      | _ => rcases hw with rfl | rfl <;> simp -implicitDefEqProofs [C__law_is_kind, opIsi, D.isF, e1, put2, rsopt, in2L, in3L, isK, form, one1, isHds]
theorem lik_items1 {m n : Nat} {u a : Int} {xs : List D} (ih : ∀ x, PN m x → q9 x = true → ∀ u : Int, C k n__law_is_kind [x, .int u] h = .ok (.bl (isK TW (EL : Int) n u x)) h) (pn : ∀ x ∈ xs, PN m x) (q : ∀ x ∈ xs, q9 x = true) (r0 r2 r4 : Option D) (b : D) :
    lcLoop (fun _ => true) (lcTurn (.v 5) (evE (F k) G c__law_is_kind_1) (evE (F k) G x__law_is_kind_1) [r0, some (.int u), r2, some (.tup [.int a, b]), r4, none]) xs [] h = .ok (.lst (xs.map fun x => .bl (isK TW (EL : Int) n (u + a) x))) h := by
  refine lcM (acc := []) (fun x => .bl (isK TW (EL : Int) n (u + a) x)) fun x hx => ?_
  simp [ih x (pn x hx) (q x hx) (u + a)]
theorem lik_not {m n : Nat} {u : Int} {rest : List D} (pn : PN (m + 1) (.tup (.str "not" :: rest))) (I : Ih m n (.tup (.str "not" :: rest)) k h) :
    C (k + 1) n__law_is_kind [.tup (.str "not" :: rest), .int u] h = .ok (.bl (isK TW (EL : Int) (n + 1) u (.tup (.str "not" :: rest)))) h := by
  have e1 := eq_nil (h := h) I.p
  cases rest with
  | nil => simp -implicitDefEqProofs [C__law_is_kind, opIsi, D.isF, e1, put2, rsopt, in2L, in3L, isK, form, two2]
  | cons x r =>
    cases r with
    | nil => simp -implicitDefEqProofs [C__law_is_kind, opIsi, D.isF, e1, put2, rsopt, in2L, in3L, isK, form, two2]
    | cons y r =>
      cases r with
      | cons z r =>
        have hl : ¬ ((r.length : Int) + 1 + 1 + 1 = 2) := by omega
        have hl2 : ((r.length : Int) + 1 + 1 + 1 == 2) = false := beq_eq_false_iff_ne.mpr hl
        simp -implicitDefEqProofs [C__law_is_kind, opIsi, D.isF, e1, put2, rsopt, in2L, in3L, isK, form, two2, hl, hl2]
      | nil =>
        have qx : q9 x = true := (q9_tup I.q).2 x (by simp)
        have qy : q9 y = true := (q9_tup I.q).2 y (by simp)
        cases x with
        | int i =>
          by_cases h0 : 0 ≤ i
          · by_cases h1 : i ≤ 10000
            · cases y with
              | tup xs =>
                obtain ⟨hz, q⟩ := q9_tup qy
                have pnx : ∀ y ∈ xs, PN m y := fun y hy => ((pn.sub (x := .tup xs) (by simp)).dn hy).1
                have l := fun r0 r2 r4 => lik_items1 (u := u) (a := i) I.ih pnx q r0 r2 r4 (.tup xs)
                have hz' : xs.length ≤ 16777216 := by omega
                have am := all_map (h := h) (fun x => isK TW (EL : Int) n (u + i) x) xs
                have ah := all_hd (ws := TW) (f := (EL : Int)) (u := u + i) (n := n) (xs := xs)
                have r : isK TW (EL : Int) (n + 1) u (.tup [.str "not", .int i, .tup xs]) = xs.all (isK TW (EL : Int) n (u + i)) := by
                  rw [← ah]
                  simp [isK, form, two2, inB, bnd, h0, h1, inn, bnn, TW, isHds, items, numD, -List.all_eq_true]
                rw [r]
                simp -implicitDefEqProofs [C__law_is_kind, opIsi, D.isF, e1, put2, rsopt, in2L, in3L, h0, h1, l, hz', am, -List.all_eq_true]
              | ref i => cases qy
              | fz i => cases qy
              | ftup i => cases qy
              | exc i => cases qy
              | exf i j l => cases qy
              | _ => simp -implicitDefEqProofs [C__law_is_kind, opIsi, D.isF, e1, put2, rsopt, in2L, in3L, h0, h1, isK, form, two2, inB, bnd, isHds]
            · simp -implicitDefEqProofs [C__law_is_kind, opIsi, D.isF, e1, put2, rsopt, in2L, in3L, h0, h1, isK, form, two2, inB, bnd]
          · simp -implicitDefEqProofs [C__law_is_kind, opIsi, D.isF, e1, put2, rsopt, in2L, in3L, h0, isK, form, two2, inB, bnd]
        | ref i => cases qx
        | fz i => cases qx
        | ftup i => cases qx
        | exc i => cases qx
        | exf i j l => cases qx
        | _ => simp -implicitDefEqProofs [C__law_is_kind, opIsi, D.isF, e1, put2, rsopt, in2L, in3L, isK, form, two2, inB]
theorem lik_other {m n : Nat} {u : Int} {w : Str} {rest : List D} (I : Ih m n (.tup (.str w :: rest)) k h) (h1 : ¬ w = "int") (h2 : ¬ (w = "free" ∨ w = "var")) (h3 : ¬ (w = "cell" ∨ w = "some" ∨ w = "rec")) (h4 : ¬ (w = "row" ∨ w = "one")) (h5 : ¬ w = "not") :
    C (k + 1) n__law_is_kind [.tup (.str w :: rest), .int u] h = .ok (.bl (isK TW (EL : Int) (n + 1) u (.tup (.str w :: rest)))) h := by
  have e1 := eq_nil (h := h) I.p
  have hs : PyData.strOk w = true := (I.p.sub List.mem_cons_self).1
  simp only [not_or] at h2 h3 h4
  have r : isK TW (EL : Int) (n + 1) u (.tup (.str w :: rest)) = false := by
    simp [isK, TW, h1, h2.1, h2.2, h3.1, h3.2.1, h3.2.2, h4.1, h4.2, h5]
  rw [r]
  simp -implicitDefEqProofs [C__law_is_kind, opIsi, D.isF, e1, put2, rsopt, in2L, in3L, hs, h1, Ne.symm h2.1, Ne.symm h2.2, Ne.symm h3.1, Ne.symm h3.2.1, Ne.symm h3.2.2, Ne.symm h4.1, Ne.symm h4.2, h5]
theorem lik_step {m n : Nat} {u : Int} {d : D} (pn : PN (m + 1) d) (I : Ih m n d k h) : C (k + 1) n__law_is_kind [d, .int u] h = .ok (.bl (isK TW (EL : Int) (n + 1) u d)) h := by
  cases d with
  | tup xs =>
    have e1 := eq_nil (h := h) I.p
    cases xs with
    | nil =>
      rw [isK_not (d := .tup []) rfl]
      simp -implicitDefEqProofs [C__law_is_kind, opIsi, D.isF, e1]
    | cons x r =>
      cases x with
      | str w =>
        by_cases h1 : w = "int"
        · subst h1; exact lik_int I
        by_cases h2 : w = "free" ∨ w = "var"
        · exact lik_var I h2
        by_cases h3 : w = "cell" ∨ w = "some" ∨ w = "rec"
        · exact lik_un pn I h3
        by_cases h4 : w = "row" ∨ w = "one"
        · exact lik_row pn I h4
        by_cases h5 : w = "not"
        · subst h5; exact lik_not pn I
        exact lik_other I h1 h2 h3 h4 h5
      | ref i => have := (q9_tup I.q).2 _ List.mem_cons_self; cases this
      | fz i => have := (q9_tup I.q).2 _ List.mem_cons_self; cases this
      | ftup i => have := (q9_tup I.q).2 _ List.mem_cons_self; cases this
      | exc i => have := (q9_tup I.q).2 _ List.mem_cons_self; cases this
      | exf i j l => have := (q9_tup I.q).2 _ List.mem_cons_self; cases this
      | _ =>
        rw [isK_not rfl]
        simp -implicitDefEqProofs [C__law_is_kind, opIsi, D.isF, e1]
  | ref i => cases I.q
  | fz i => cases I.q
  | ftup i => cases I.q
  | exc i => cases I.q
  | exf i j l => cases I.q
  | _ =>
    rw [isK_not rfl]
    simp -implicitDefEqProofs [C__law_is_kind, opIsi, D.isF]
theorem lik_ok : ∀ (n N : Nat) (u : Int) (d : D), n ≤ 64 → n ≤ N → PN n d → q9 d = true → C (N + 1) n__law_is_kind [d, .int u] h = .ok (.bl (isK TW (EL : Int) (n + 1) u d)) h
  | 0, N, u, d, hn, _, hd, hq => by
    cases d with
    | tup xs => have := hd.2; simp [D.dep] at this
    | ref i => cases hq
    | fz i => cases hq
    | ftup i => cases hq
    | exc i => cases hq
    | exf i j l => cases hq
    | _ =>
      rw [isK_not rfl]
      simp -implicitDefEqProofs [C__law_is_kind, opIsi, D.isF]
  | n + 1, N + 1, u, d, hn, hN, hd, hq => lik_step (m := n) (n := n + 1) (k := N + 1) (h := h) hd ⟨hd.p64 hn, hq, fun x px qx u => lik_ok n N u x (by omega) (by omega) px qx⟩
end
end K32
end

section
set_option maxRecDepth 100000
namespace K32
open PySem PV Kn
/-- what is put in -/
def odds (t : D) : List D := [.int 0, .int 1, .int (-1), .bl true, .non, .str "row", .str "to", .str "x", .tup [], .tup [.str "int"], .tup [.str "int", .int 0], .tup [.str "free", .int 0], .tup [.str "free", .int (-1)], .tup [.str "var", .int 0],
  .tup [.str "var", .int 1], .tup [.str "var", .int 9], .tup [.str "free", .bl true], .tup [.str "row", .tup []], .tup [.str "one", .tup []], .tup [.str "room", .tup []], .tup [.str "to", .int 0, .tup [], .tup [.str "int"]],
  .tup [.str "rec", .tup [.str "var", .int 0]], .tup [.str "rec", .tup [.str "int"]], .tup [.str "some", .tup [.str "var", .int 0]], .tup [.str "not", .int 0, .tup []], .tup [.str "not", .int (-1), .tup []], .lst [], .int 10001,
  .tup [.str "not", .int 10001, .tup []], .tup [.str "code", .int 0, .tup []], .tup [.str "cell"], .tup [.str "row", .lst [.tup [.str "int"]]], .tup [t, t], .lst [t], .tup [.str "all", .tup [.str "int"]]]
theorem EL_int' : ((EL : Nat) : Int) = 10000000000000000000000000000000000000000000000000000000000000000000000000000000000000000000 := EL_int
theorem odds_all {t : D} {n : Nat} (p : PN n t) (q : q9 t = true) : ∀ x ∈ odds t, PN (n + 3) x ∧ q9 x = true := by
  have hb : ∀ i : Int, i ≤ 10001 → i < (EL : Int) := fun i hi => by have := EL_big; omega
  have b0 := hb 0 (by omega)
  have b1 := hb 1 (by omega)
  have b2 := hb (-1) (by omega)
  have b3 := hb 9 (by omega)
  have b4 := hb 10001 (by omega)
  generalize hE : (EL : Int) = e at b0 b1 b2 b3 b4
  have h1 := p.1
  have h2 := p.2
  intro x hx
  simp only [odds, List.mem_cons, List.not_mem_nil, or_false] at hx
  rcases hx with rfl | rfl | rfl | rfl | rfl | rfl | rfl | rfl | rfl | rfl | rfl | rfl | rfl | rfl | rfl | rfl | rfl | rfl | rfl | rfl | rfl | rfl | rfl | rfl | rfl | rfl | rfl | rfl | rfl | rfl | rfl | rfl | rfl | rfl | rfl <;>
    refine ⟨⟨by simp [pl, pls, h1], ?_⟩, by simp [q9, q9s, hE, b0, b1, b2, b3, b4, q]⟩ <;> simp only [D.dep, D.deps] <;> omega
section
variable {rest h : Hh} {N : Nat}
def b_bo : Ss := match b__law_bent with
  | .cons _ t => t
  | _ => .nil
def b_bi : Ss := match b__law_bent with
  | .cons (.ite _ b _) _ => b
  | _ => .nil
theorem b_b_eq : b__law_bent = .cons (.ite (.and (.isi (.var 1) .tup) (.cons (.cmp .ne (.var 1) (.tup (.nil))) (.cons (.cmp .gt (.call 18 (.cons (.var 0) (.cons (.con (.int 9)) .nil))) (.con (.int 0))) .nil))) b_bi (.nil)) b_bo := rfl
theorem odd_ok (i : Inv rest h) (t : D) (M : Nat) : ∃ x h', finR false M (evSs (F (N + 1)) G b_bo [some (.ref 1), some t, none, none] h) = .ok x h' ∧ x ∈ odds t ∧ Inv rest h' := by
  obtain ⟨v, h', e, v0, v1, i'⟩ := drop_ok (k := N) i (many := 35) (by omega) (by omega)
  obtain ⟨n, rfl⟩ : ∃ n : Nat, v = (n : Int) := ⟨v.toNat, by omega⟩
  have hn : n < (odds t).length := by show n < 35; omega
  have a : L2.atI (odds t) (n : Int) = some (odds t)[n] := L2.atI_nat (List.getElem?_eq_getElem hn)
  refine ⟨(odds t)[n], h', ?_, List.getElem_mem hn, i'⟩
  generalize (odds t)[n] = y at a
  simp only [odds] at a
  simp -implicitDefEqProofs [b_bo, b__law_bent, e, a]
theorem set_q9 {xs : List D} {n : Nat} {x : D} (p : PN (n + 1) (.tup xs)) (q : q9 (.tup xs) = true) {j : Nat} (hj : j < xs.length) (px : PN (n + 3) x) (qx : q9 x = true) : PN (n + 1 + 3) (.tup (xs.take j ++ x :: xs.drop (j + 1))) ∧ q9 (.tup (xs.take j ++ x :: xs.drop (j + 1))) = true ∧ (xs.take j ++ x :: xs.drop (j + 1)).length = xs.length := by
  have hl : (xs.take j ++ x :: xs.drop (j + 1)).length = xs.length := by simp; omega
  obtain ⟨z, q1⟩ := q9_tup q
  have mem : ∀ y ∈ xs.take j ++ x :: xs.drop (j + 1), y = x ∨ y ∈ xs := fun y hy => by
    (rcases List.mem_append.mp hy with hy | hy)
    · exact .inr (List.mem_of_mem_take hy)
    · (rcases List.mem_cons.mp hy with rfl | hy)
      · exact .inl rfl
      · exact .inr (List.mem_of_mem_drop hy)
  have qa : q9 (.tup (xs.take j ++ x :: xs.drop (j + 1))) = true := by
    simp only [q9, Bool.and_eq_true, decide_eq_true_eq]
    refine ⟨by rw [hl]; exact z, q9s_iff.mpr fun y hy => ?_⟩
    rcases mem y hy with rfl | hy
    · exact qx
    · exact q1 y hy
  refine ⟨⟨q9_pl _ qa, ?_⟩, qa, hl⟩
  show D.deps _ + 1 ≤ n + 1 + 3
  have : D.deps (xs.take j ++ x :: xs.drop (j + 1)) ≤ n + 3 := deps_le.mpr fun y hy => by
    rcases mem y hy with rfl | hy
    · exact px.2
    · exact Nat.le_trans (p.sub hy).2 (by omega)
  omega
theorem bent_ok : ∀ (n N : Nat) (d : D) (h : Hh), n ≤ 60 → n ≤ N → PN n d → q9 d = true → Inv rest h → ∃ x h', C (N + 2) n__law_bent [.ref 1, d] h = .ok x h' ∧ (PN (n + 3) x ∧ q9 x = true) ∧ Inv rest h'
  | n, N, d, h, hn, hN, p, q, i => by
    have low : (∃ x h', C (N + 2) n__law_bent [.ref 1, d] h = .ok x h' ∧ x ∈ odds d ∧ Inv rest h') → ∃ x h', C (N + 2) n__law_bent [.ref 1, d] h = .ok x h' ∧ (PN (n + 3) x ∧ q9 x = true) ∧ Inv rest h' := by
      rintro ⟨x, h', e, mem, i'⟩
      exact ⟨x, h', e, odds_all p q x mem, i'⟩
    have nf : d.isF = false := (p.p64 (by omega)).nf
    cases d with
    | tup xs =>
      have e1 := ne_nil (h := h) (p.p64 (by omega))
      cases xs with
      | nil =>
        refine low ?_
        obtain ⟨x, h', e, mem, i'⟩ := odd_ok (N := N) i (.tup []) h.length
        refine ⟨x, h', ?_, mem, i'⟩
        rw [C__law_bent, b_b_eq]
        simp -implicitDefEqProofs [opIsi, D.isF, e1, e]
      | cons y ys =>
        obtain ⟨v, h1, e2, v0, v1, i1⟩ := drop_ok (k := N) i (many := 9) (by omega) (by omega)
        rw [show (y :: ys).isEmpty = false from rfl] at e1
        by_cases hv : 0 < v
        · cases n with
          | zero => have := p.2; simp [D.dep] at this
          | succ n =>
            have hlen : 0 < (y :: ys).length := by simp
            have hz := (q9_tup q).1
            generalize (y :: ys) = xs at p q e1 hlen hz ⊢
            obtain ⟨v2, h2, e3, v20, v21, i2⟩ := drop_ok (k := N) i1 (many := (xs.length : Int)) (by omega) (by omega)
            obtain ⟨j, rfl⟩ : ∃ n : Nat, v2 = (n : Int) := ⟨v2.toNat, by omega⟩
            have hj : j < xs.length := by omega
            obtain ⟨N, rfl⟩ : ∃ M, N = M + 1 := ⟨N - 1, by omega⟩
            have mem : xs[j] ∈ xs := List.getElem_mem hj
            obtain ⟨x, h3, e4, ⟨px, qx⟩, i3⟩ := bent_ok n N xs[j] h2 (by omega) (by omega) (p.sub mem) ((q9_tup q).2 _ mem) i2
            have a : L2.atI xs (j : Int) = some xs[j] := L2.atI_nat (List.getElem?_eq_getElem hj)
            obtain ⟨pa, qa, la⟩ := set_q9 p q hj px qx
            refine ⟨_, h3, ?_, ⟨pa, qa⟩, i3⟩
            have c1 := cut_take xs j
            have c2 := cut_drop xs (j + 1)
            simp only [Int.natCast_add, Int.natCast_one] at c2
            have z1 : min j xs.length + 1 ≤ 16777216 := by omega
            have z2 : min j xs.length + 1 + (xs.length - (j + 1)) ≤ 16777216 := by omega
            rw [C__law_bent, b_b_eq]
            simp -implicitDefEqProofs [opIsi, D.isF, e1, e2, hv, b_bi, b__law_bent, e3, e4, a, c1, c2, z1, z2]
        · refine low ?_
          have hv0 : v = 0 := by omega
          subst hv0
          obtain ⟨x, h', e, mem, i'⟩ := odd_ok (N := N) i1 (.tup (y :: ys)) h.length
          refine ⟨x, h', ?_, mem, i'⟩
          rw [C__law_bent, b_b_eq]
          generalize (y :: ys) = xs at e1 e ⊢
          simp -implicitDefEqProofs [opIsi, D.isF, e1, e2, e]
    | ref i => cases q
    | fz i => cases q
    | ftup i => cases q
    | exc i => cases q
    | exf i j l => cases q
    | non =>
      refine low ?_
      obtain ⟨x, h', e, mem, i'⟩ := odd_ok (N := N) i .non h.length
      exact ⟨x, h', by rw [C__law_bent, b_b_eq]; simp -implicitDefEqProofs [opIsi, D.isF, e], mem, i'⟩
    | bl b =>
      refine low ?_
      obtain ⟨x, h', e, mem, i'⟩ := odd_ok (N := N) i (.bl b) h.length
      exact ⟨x, h', by rw [C__law_bent, b_b_eq]; simp -implicitDefEqProofs [opIsi, D.isF, e], mem, i'⟩
    | int b =>
      refine low ?_
      obtain ⟨x, h', e, mem, i'⟩ := odd_ok (N := N) i (.int b) h.length
      exact ⟨x, h', by rw [C__law_bent, b_b_eq]; simp -implicitDefEqProofs [opIsi, D.isF, e], mem, i'⟩
    | str b =>
      refine low ?_
      obtain ⟨x, h', e, mem, i'⟩ := odd_ok (N := N) i (.str b) h.length
      exact ⟨x, h', by rw [C__law_bent, b_b_eq]; simp -implicitDefEqProofs [opIsi, D.isF, e], mem, i'⟩
    | lst b =>
      refine low ?_
      obtain ⟨x, h', e, mem, i'⟩ := odd_ok (N := N) i (.lst b) h.length
      exact ⟨x, h', by rw [C__law_bent, b_b_eq]; simp -implicitDefEqProofs [opIsi, D.isF, e], mem, i'⟩
/-- refused, or not, as the law says -/
theorem judged_ok {d : D} {n : Nat} (p : PN n d) (q : q9 d = true) (hn : n ≤ 64) (N : Nat) (hN : 192 ≤ N) :
    ∃ b : Bool, C (N + 7) n__law_refused [d] h = .ok (.str (if b then "" else "kind")) h ∧ C (N + 7) n__law_is_kind [d, .int 0] h = .ok (.bl b) h := by
  have e2 := lik_ok (h := h) n (N + 6) 0 d hn (by omega) p q
  cases hk : isK TW (EL : Int) (n + 1) 0 d with
  | false =>
    rw [hk] at e2
    exact ⟨false, refused_ok p hn N (by omega) hk, e2⟩
  | true =>
    rw [hk] at e2
    obtain ⟨k, rfl, g⟩ := kd_of (n + 1) 0 d (by simpa using hk) q
    have hd : k.dw ≤ 64 := by rw [← dw_eq k (tw_nr g.ok)]; exact Nat.le_trans p.2 hn
    exact ⟨true, taken_ok g.ok g.tw (Nat.le_refl _) hd N hN, e2⟩
end
end K32
end

section
set_option maxRecDepth 100000
namespace K32
open PySem PV Kn
open PW (rng_ok)
theorem EL_60 : 10 ^ 60 + 9 < EL := by decide +kernel
/-! ### opened good kinds -/
theorem opn_ok {f : Nat} {ss : List Kd} (h : ∀ s ∈ ss, s.ok TW f 0) {k : Kd} (o : k.ok TW f ss.length) : (k.tr (putG ss) 0).ok TW f 0 :=
  tr_ok (F := f) (s := ss.length) (t := 0) k 0 (by rw [Nat.zero_add]; exact o) fun v _ => putG_ok h v
theorem opns_ok {f : Nat} {ss : List Kd} (h : ∀ s ∈ ss, s.ok TW f 0) {k : Ks} (o : k.ok TW f ss.length) : (k.tr (putG ss) 0).ok TW f 0 :=
  trs_ok (F := f) (s := ss.length) (t := 0) k 0 (by rw [Nat.zero_add]; exact o) fun v _ => putG_ok h v
theorem putG_dw {ss : List Kd} {N : Nat} (h : ∀ k ∈ ss, k.dw ≤ N + 1) (v : Nat) (f : Bool) (n : Nat) : (putG ss v f n).dw ≤ N + 1 := by
  unfold putG
  split
  · exact Nat.succ_le_succ (Nat.zero_le _)
  · split
    · exact Nat.succ_le_succ (Nat.zero_le _)
    · cases e : ss[n - v]? with
      | none => exact Nat.succ_le_succ (Nat.zero_le _)
      | some k => exact h k (List.mem_of_getElem? e)
/-- raised, then the new one taken out -/
theorem up_down (s : Kd) (ks : Ks) (n : Nat) : (ks.tr upG n).tr (putG [s]) n = ks := by
  rw [trs_trs]
  have e : (fun u f m => (upG u f m).tr (putG [s]) u) = (fun _ f m => if f then Kd.free m else Kd.var m : Leaf) := by
    funext u f m
    cases f with
    | true => rfl
    | false =>
      by_cases h1 : m < u
      · simp [upG, h1, Kd.tr, putG]
      · have h2 : ¬ m + 1 < u := by omega
        have h3 : [s][m + 1 - u]? = none := List.getElem?_eq_none (by show 1 ≤ _; omega)
        have e1 : (upG u false m).tr (putG [s]) u = putG [s] u false (m + 1) := by simp [upG, h1, Kd.tr]
        rw [e1]
        unfold putG
        simp only [Bool.false_eq_true, if_false, h2]
        rw [h3]
        simp
  rw [e]
  exact trs_id ks n
mutual
theorem tr_cwN {g : Leaf} {N : Nat} (h : ∀ v f n, (g v f n).cw ≤ N + 1) : ∀ (k : Kd) (u : Nat), (k.tr g u).cw ≤ k.cw + N
  | .int, u => by simp only [Kd.tr, Kd.cw]; omega
  | .free n, u => by have := h u true n; simp only [Kd.tr, Kd.cw]; omega
  | .var n, u => by have := h u false n; simp only [Kd.tr, Kd.cw]; omega
  | .un w k, u => by have := tr_cwN h k (u + w.bn); simp only [Kd.tr, Kd.cw]; omega
  | .mn .row ks, u => by have := trs_cwN h ks (u + 0); simp only [Kd.tr, Kd.cw, Mn.bn]; omega
  | .mn .one ks, u => by have := trs_cwN h ks (u + 0); simp only [Kd.tr, Kd.cw, Mn.bn]; omega
  | .mn .room ks, u => by have := trs_cwN h ks (u + 0); simp only [Kd.tr, Kd.cw, Mn.bn]; omega
  | .mn (.code n) ks, u => by have := trs_cwN h ks (u + n); simp only [Kd.tr, Kd.cw, Mn.bn]; omega
  | .mn (.not n) ks, u => by have := trs_cwN h ks (u + n); simp only [Kd.tr, Kd.cw, Mn.bn]; omega
  | .to n ks l, u => by have := trs_cwN h ks (u + n); have := tr_cwN h l (u + n); simp only [Kd.tr, Kd.cw]; omega
theorem trs_cwN {g : Leaf} {N : Nat} (h : ∀ v f n, (g v f n).cw ≤ N + 1) : ∀ (ks : Ks) (u : Nat), (ks.tr g u).cw ≤ ks.cw + N
  | .nil, u => Nat.zero_le _
  | .cons b k r, u => by have := tr_cwN h k u; have := trs_cwN h r u; simp only [Ks.tr, Ks.cw]; omega
end
theorem putG_cw {ss : List Kd} {N : Nat} (h : ∀ k ∈ ss, k.cw ≤ N + 1) (v : Nat) (f : Bool) (n : Nat) : (putG ss v f n).cw ≤ N + 1 := by
  unfold putG
  split
  · exact Nat.succ_le_succ (Nat.zero_le _)
  · split
    · exact Nat.succ_le_succ (Nat.zero_le _)
    · cases e : ss[n - v]? with
      | none => exact Nat.succ_le_succ (Nat.zero_le _)
      | some k => exact h k (List.mem_of_getElem? e)
theorem kd_dep4 {f u : Nat} {k : Kd} (o : k.ok TW f u) : k.cl.d.dep ≤ k.cw := by
  rw [dw_eq _ (tw_nr (cl_ok k o))]
  exact cl_dw k
theorem ks_dep4 {f u : Nat} : ∀ {k : Ks}, k.ok TW f u → D.deps k.cls.ds ≤ k.cw
  | .nil, _ => Nat.zero_le _
  | .cons b k r, o => by
    have h1 := kd_dep4 o.1
    have h2 := ks_dep4 o.2
    show max k.cl.d.dep (D.deps r.cls.ds) ≤ max k.cw r.cw
    omega
theorem cl_pl {f u : Nat} {k : Kd} (o : k.ok TW f u) (t : k.tw) : pl k.cl.d = true := kd_pl (cl_ok k o) (tw_cl k t)
theorem cls_pl {f u : Nat} : ∀ {k : Ks}, k.ok TW f u → k.tw → pls k.cls.ds = true
  | .nil, _, _ => rfl
  | .cons b k r, o, t => by
    show (pl k.cl.d && pls r.cls.ds) = true
    rw [cl_pl o.1 t.1, cls_pl o.2 t.2]; rfl
section
variable {rest h : Hh} {m : Nat}
theorem d6 (i : Inv rest h) {many : Int} (h0 : 0 < many) (h1 : many < 1073741824) : ∃ v h', C (m + 210) n__law_drop [.ref 1, .int many] h = .ok (.int v) h' ∧ 0 ≤ v ∧ v < many ∧ Inv rest h' := drop_ok (k := m + 209) i h0 h1
theorem k6 (i : Inv rest h) (f deep : Nat) {di : Int} (hdi : (deep : Int) = di) (hf : f ≤ 900) (hd : deep ≤ 4) : ∃ (kd : Kd) (h' : Hh), C (m + 210) n__law_some_kind [.ref 1, .int (f : Int), .int di] h = .ok kd.d h' ∧ Inv rest h' ∧ Gk f 0 deep kd := hdi ▸ kind_ok deep (m + 208) (by omega) rest h f (by omega) i
theorem c6 {k : Kd} {Fr : Nat} (ok : k.ok TW Fr 0) (tw : k.tw) (hf : Fr ≤ EL) (hd : k.dw ≤ 64) : C (m + 210) n_closed_kind [k.d] h = .ok k.cl.d h := closed_ok ok tw hf hd (m + 204) (by omega)
theorem o6 {d : Kd} {ss : List Kd} (hs : d.sm) (hB : Kd.isB d = true) (hd : d.dep ≤ 200) : C (m + 210) n_opened [d.d, .tup (kds ss)] h = .ok (Kd.op (d.inn (putG ss) 0)) h := opened_ok (n := m + 206) hs hB (by omega)
theorem lc6 {k : Kd} {Fr : Nat} (ok : k.ok TW Fr 0) (tw : k.tw) (hd : 3 * k.dep ≤ 200) : C (m + 210) n__law_closed [k.d] h = .ok k.cl.d h := lcl_ok k 0 (m + 207) ok tw (by omega)
theorem lp6 {d : Kd} {ss : List Kd} (hg : ∀ s ∈ ss, Kd.tk s) (hk : Kd.tk d) (hs : d.sm) (hd : d.dep ≤ 200) : C (m + 210) n__law_put [d.d, .int 0, .lst (kds ss)] h = .ok (d.tr (putG ss) 0).d h := lput_ok true hg d 0 (m + 208) hk hs (by omega)
theorem a6 {d : D} (p : pl d = true) (hd : d.dep ≤ 200) : C (m + 210) n__law_alike [d, d] h = .ok (.bl true) h := alike_ok (m + 208) d p (by omega)
theorem b6 {n : Nat} {d : D} (hn : n ≤ 60) (p : PN n d) (q : q9 d = true) (i : Inv rest h) : ∃ x h', C (m + 210) n__law_bent [.ref 1, d] h = .ok x h' ∧ (PN (n + 3) x ∧ q9 x = true) ∧ Inv rest h' := bent_ok n (m + 208) d h hn (by omega) p q i
theorem j6 {d : D} {n : Nat} (p : PN n d) (q : q9 d = true) (hn : n ≤ 64) : ∃ b : Bool, C (m + 210) n__law_refused [d] h = .ok (.str (if b then "" else "kind")) h ∧ C (m + 210) n__law_is_kind [d, .int 0] h = .ok (.bl b) h := judged_ok p q hn (m + 203) (by omega)
theorem closeds {f : Nat} (hf : f ≤ EL) : ∀ ks : Ks, ks.ok TW f 0 → ks.tw → ks.dw ≤ 64 → A2 (fun x y => C (m + 210) n_closed_kind [x] h = .ok y h) ks.ds ks.cls.ds
  | .nil, _, _, _ => .nil
  | .cons b k r, o, t, d => .cons (c6 o.1 t.1 hf (Nat.le_trans (Nat.le_max_left _ _) d)) (closeds hf r o.2 t.2 (Nat.le_trans (Nat.le_max_right _ _) d))
/-! ### the turn's parts -/
def b_tb : Ss := match b_law with
  | .cons _ (.cons _ (.cons (.for_ _ _ b) _)) => b
  | _ => .nil
def tailN : Nat → Ss → Ss
  | 0, s => s
  | n + 1, .cons _ t => tailN n t
  | _ + 1, .nil => .nil
def headS : Ss → S
  | .cons s _ => s
  | .nil => .pass
def sB : S := headS (tailN 5 b_tb)
def sC : S := headS (tailN 6 b_tb)
def sD : S := headS (tailN 7 b_tb)
def b_te : Ss := tailN 8 b_tb
theorem nm_in {k : Kd} : opCmp .inn h (.str (Kd.nm k)) (.lst [.str (.ofString "some"), .str (.ofString "rec")]) = some (decide (Str.ofString "some" = Kd.nm k) || decide (Str.ofString "rec" = Kd.nm k)) := by
  rw [in2L]
  have : PyData.strOk (Kd.nm k) = true := by
    cases k with
    | un w k => cases w <;> simp [Kd.nm]
    | mn w k => cases w <;> simp [Kd.nm]
    | _ => simp [Kd.nm]
  rw [if_pos this]
theorem stB (i : Inv rest h) {f : Nat} (hf : f ≤ 3) {k : Kd} (g : Gk f 0 4 k) (s : Option D) (r2 r3 r7 r8 r9 r10 r11 r12 r13 r14 r15 r16 r17 : Option D) :
    ∃ (q6 q7 q8 : Option D) (h' : Hh), evS (F (m + 210)) G sB [s, some (.ref 1), r2, r3, some (.int f), some k.d, some k.cl.d, r7, r8, r9, r10, r11, r12, r13, r14, r15, r16, r17] h = .nxt [s, some (.ref 1), r2, r3, some (.int f), some k.d, q6, q7, q8, r9, r10, r11, r12, r13, r14, r15, r16, r17] h' ∧ Inv rest h' := by
  have skip : (Str.ofString "some" = Kd.nm k) = False → (Str.ofString "rec" = Kd.nm k) = False → ∃ (q6 q7 q8 : Option D) (h' : Hh), evS (F (m + 210)) G sB [s, some (.ref 1), r2, r3, some (.int f), some k.d, some k.cl.d, r7, r8, r9, r10, r11, r12, r13, r14, r15, r16, r17] h = .nxt [s, some (.ref 1), r2, r3, some (.int f), some k.d, q6, q7, q8, r9, r10, r11, r12, r13, r14, r15, r16, r17] h' ∧ Inv rest h' := fun a b =>
    ⟨some k.cl.d, r7, r8, h, by simp -implicitDefEqProofs [sB, headS, tailN, b_tb, b_law, idx0, nm_in, a, b], i⟩
  have go : ∀ (w : Un) (inner : Kd), (w = .som ∨ w = .re) → k = .un w inner → ∃ (q6 q7 q8 : Option D) (h' : Hh), evS (F (m + 210)) G sB [s, some (.ref 1), r2, r3, some (.int f), some k.d, some k.cl.d, r7, r8, r9, r10, r11, r12, r13, r14, r15, r16, r17] h = .nxt [s, some (.ref 1), r2, r3, some (.int f), some k.d, q6, q7, q8, r9, r10, r11, r12, r13, r14, r15, r16, r17] h' ∧ Inv rest h' := by
    rintro w inner hw rfl
    obtain ⟨put, h1, e1, i1, gp⟩ := k6 (m := m) i f 2 (di := 2) rfl (by omega) (by omega)
    have hdw : inner.dw + 1 ≤ 29 := g.dw
    have hpd := gp.dw
    have oi : inner.ok TW f 1 := by have := g.ok.2.2; rcases hw with rfl | rfl <;> exact this
    have os : ∀ x ∈ [put], x.ok TW f 0 := fun x hx => by rw [List.mem_singleton.mp hx]; exact gp.ok
    have oX := opn_ok (ss := [put]) os oi
    have tX := tr_tw (putG_tw (ss := [put]) fun x hx => by rw [List.mem_singleton.mp hx]; exact gp.tw) inner 0 g.tw
    have dX := tr_dw (N := 14) (putG_dw (ss := [put]) fun x hx => by rw [List.mem_singleton.mp hx]; omega) inner 0
    have hEL : f ≤ EL := by have := EL_big; omega
    have hB1 : Kd.isB (Kd.un w inner) = true := by rcases hw with rfl | rfl <;> rfl
    have hB2 : Kd.isB (Kd.un w inner.cl) = true := by rcases hw with rfl | rfl <;> rfl
    have hdp := dep_dw inner
    have hdc := cl_dep inner
    have hdq := dep_dw put
    have s1 : C (m + 210) n_opened [(Kd.un w inner).d, .tup [put.d]] h1 = .ok (inner.tr (putG [put]) 0).d h1 := o6 (ss := [put]) (tw_sm _ g.tw) hB1 (by show inner.dep + 1 ≤ 200; omega)
    have s2 : C (m + 210) n_closed_kind [(inner.tr (putG [put]) 0).d] h1 = .ok (inner.tr (putG [put]) 0).cl.d h1 := c6 oX tX hEL (by omega)
    have s3 : C (m + 210) n_closed_kind [(Kd.un w inner).d] h1 = .ok (Kd.un w inner.cl).d h1 := c6 g.ok g.tw hEL (by have := g.dw; omega)
    have s4 : C (m + 210) n_closed_kind [put.d] h1 = .ok put.cl.d h1 := c6 gp.ok gp.tw hEL (by omega)
    have s5 : C (m + 210) n_opened [(Kd.un w inner.cl).d, .tup [put.cl.d]] h1 = .ok (inner.cl.tr (putG [put.cl]) 0).d h1 := o6 (ss := [put.cl]) (d := .un w inner.cl) (tw_cl inner g.tw) hB2 (by show inner.cl.dep + 1 ≤ 200; omega)
    have s6 : C (m + 210) n__law_closed [put.d] h1 = .ok put.cl.d h1 := lc6 gp.ok gp.tw (by omega)
    have s7 : C (m + 210) n__law_put [inner.cl.d, .int 0, .lst [put.cl.d]] h1 = .ok (inner.cl.tr (putG [put.cl]) 0).d h1 := lp6 (ss := [put.cl]) (fun x hx => by rw [List.mem_singleton.mp hx]; exact ok_tk _ (cl_ok put gp.ok)) (ok_tk _ (cl_ok inner oi)) (tw_cl inner g.tw) (by omega)
    have eq : (inner.tr (putG [put]) 0).cl = inner.cl.tr (putG [put.cl]) 0 := cl_put (ss := [put]) (fun x hx => by rw [List.mem_singleton.mp hx]; exact ⟨f, ok_wk _ (cl_ok put gp.ok)⟩) inner 0
    have pR := cl_pl oX tX
    have hcw : inner.cw + 1 ≤ 53 := g.cw
    have cX := tr_cwN (N := 26) (putG_cw (ss := [put]) fun x hx => by rw [List.mem_singleton.mp hx]; have := gp.cw; omega) inner 0
    have dR := kd_dep4 oX
    rw [eq] at s2 pR dR
    generalize hR : inner.cl.tr (putG [put.cl]) 0 = R at s2 s5 s7 pR dR
    have s8 : C (m + 210) n__law_alike [.lst [R.d, R.d], .lst [R.d, R.d]] h1 = .ok (.bl true) h1 := a6 (by simp [pl, pls, pR]) (by simp [D.dep, D.deps]; omega)
    have ei : ∀ h : Hh, opIdx h (Kd.un w inner.cl).d (.int 1) = some inner.cl.d := fun h => by rcases hw with rfl | rfl <;> simp [Kd.d]
    have nm : Kd.nm (.un w inner) = w.nm := rfl
    have hc : (Kd.un w inner).cl = .un w inner.cl := rfl
    rw [hc]
    refine ⟨some R.d, some put.d, some (.lst [R.d, R.d]), h1, ?_, i1⟩
    rcases hw with rfl | rfl <;> simp -implicitDefEqProofs [sB, headS, tailN, b_tb, b_law, idx0, nm_in, in2L, Kd.nm, e1, s1, s2, s3, s4, s5, s6, s7, s8, ei]
  cases k with
  | un w inner =>
    cases w with
    | cel => exact skip (by simp [Kd.nm]) (by simp [Kd.nm])
    | som => exact go .som inner (.inl rfl) rfl
    | re => exact go .re inner (.inr rfl) rfl
  | mn w ks => cases w <;> exact skip (by simp [Kd.nm]) (by simp [Kd.nm])
  | _ => exact skip (by simp [Kd.nm]) (by simp [Kd.nm])
end
end K32
end

section
set_option maxRecDepth 100000
namespace K32
open PySem PV Kn
section
variable {rest h : Hh} {m : Nat}
theorem un6 {w : Un} {inner : Kd} (hs : inner.sm) (hw : w = .som ∨ w = .re) (hd : inner.dep + 1 ≤ 200) : C (m + 210) n_unfolded [(Kd.un w inner).d] h = .ok (inner.tr (putG [.un w inner]) 0).d h := by
  have hB : Kd.isB (Kd.un w inner) = true := by rcases hw with rfl | rfl <;> rfl
  have e : C (m + 209) n_opened [(Kd.un w inner).d, .tup [(Kd.un w inner).d]] h = .ok (inner.tr (putG [.un w inner]) 0).d h := opened_ok (n := m + 205) (ss := [.un w inner]) hs hB (by show inner.dep + 1 ≤ _; omega)
  simp -implicitDefEqProofs [C_unfolded, e]
theorem stC (i : Inv rest h) {f : Nat} (hf : f ≤ 3) {k : Kd} (g : Gk f 0 4 k) (s r2 r3 r4 r6 r7 r8 r9 r10 r11 r12 r13 r14 r15 r16 r17 : Option D) :
    evS (F (m + 210)) G sC [s, some (.ref 1), r2, r3, r4, some k.d, r6, r7, r8, r9, r10, r11, r12, r13, r14, r15, r16, r17] h = .nxt [s, some (.ref 1), r2, r3, r4, some k.d, r6, r7, r8, r9, r10, r11, r12, r13, r14, r15, r16, r17] h := by
  by_cases hn : Kd.nm k = Str.ofString "rec"
  · obtain ⟨inner, rfl⟩ : ∃ inner, k = .un .re inner := by
      cases k with
      | un w inner => cases w <;> first | exact ⟨_, rfl⟩ | (simp [Kd.nm] at hn)
      | mn w ks => cases w <;> simp [Kd.nm] at hn
      | _ => simp [Kd.nm] at hn
    have hdw : inner.dw + 1 ≤ 29 := g.dw
    have oi : inner.ok TW f 1 := g.ok.2.2
    have ok2 := g.ok
    have os : ∀ x ∈ [Kd.un .re inner], x.ok TW f 0 := fun x hx => by rw [List.mem_singleton.mp hx]; exact ok2
    have oX := opn_ok (ss := [Kd.un .re inner]) os oi
    have tX := tr_tw (putG_tw (ss := [Kd.un .re inner]) fun x hx => by rw [List.mem_singleton.mp hx]; exact g.tw) inner 0 g.tw
    have dX := tr_dw (N := 28) (putG_dw (ss := [Kd.un .re inner]) fun x hx => by rw [List.mem_singleton.mp hx]; exact g.dw) inner 0
    have hEL : f ≤ EL := by have := EL_big; omega
    have hdp := dep_dw inner
    have hdc := cl_dep inner
    have s1 : C (m + 210) n_unfolded [(Kd.un .re inner).d] h = .ok (inner.tr (putG [.un .re inner]) 0).d h := un6 (tw_sm _ g.tw) (.inr rfl) (by omega)
    have s2 : C (m + 210) n_closed_kind [(inner.tr (putG [.un .re inner]) 0).d] h = .ok (inner.tr (putG [.un .re inner]) 0).cl.d h := c6 oX tX hEL (by omega)
    have s3 : C (m + 210) n_closed_kind [(Kd.un .re inner).d] h = .ok (Kd.un .re inner.cl).d h := c6 g.ok g.tw hEL (by have := g.dw; omega)
    have s4 : C (m + 210) n_unfolded [(Kd.un .re inner.cl).d] h = .ok (inner.cl.tr (putG [.un .re inner.cl]) 0).d h := un6 (tw_cl inner g.tw) (.inr rfl) (by omega)
    have eq : (inner.tr (putG [Kd.un .re inner]) 0).cl = inner.cl.tr (putG [Kd.un .re inner.cl]) 0 := cl_put (ss := [Kd.un .re inner]) (fun x hx => by rw [List.mem_singleton.mp hx]; exact ⟨f, ok_wk _ (cl_ok _ ok2)⟩) inner 0
    have pR := cl_pl oX tX
    have hcw : inner.cw + 1 ≤ 53 := g.cw
    have cX := tr_cwN (N := 52) (putG_cw (ss := [Kd.un .re inner]) fun x hx => by rw [List.mem_singleton.mp hx]; exact g.cw) inner 0
    have dR := kd_dep4 oX
    rw [eq] at s2 pR dR
    generalize hR : inner.cl.tr (putG [Kd.un .re inner.cl]) 0 = R at s2 s4 pR dR
    have s8 : C (m + 210) n__law_alike [R.d, R.d] h = .ok (.bl true) h := a6 pR (by omega)
    simp -implicitDefEqProofs [sC, headS, tailN, b_tb, b_law, idx0, Kd.nm, s1, s2, s3, s4, s8]
  · simp -implicitDefEqProofs [sC, headS, tailN, b_tb, b_law, idx0, hn]
theorem ne_free (f : Nat) : opCmp .ne h (Kd.free f).d (.tup [.str "free", .int (f : Int)]) = some false := by
  have s : (D.tup [D.str "free", D.int (f : Int)]).shp = true := by simp [D.shp, D.lay, D.lays, D.dep, D.deps]
  show Option.map _ (if D.cok (D.tup [D.str "free", D.int (f : Int)]) (D.tup [D.str "free", D.int (f : Int)]) then some ((D.tup [D.str "free", D.int (f : Int)]).eqv (D.tup [D.str "free", D.int (f : Int)])) else none) = _
  rw [cok_shp s s]
  simp [D.eqv, D.eqvs]
theorem loop_p (f n : Nat) (hf : f ≤ 900) (i : Inv rest h) (s r2 r3 r5 r6 r7 r8 r9 r11 r12 r13 r14 r15 r16 r17 : Option D) (xs : List D) :
    ∃ (zs : List Kd) (h' : Hh), lcLoop (fun _ => true) (lcTurn (.v 10) (evE (F (m + 210)) G c_law_0) (evE (F (m + 210)) G x_law_0) [s, some (.ref 1), r2, r3, some (.int f), r5, r6, r7, r8, r9, none, r11, r12, r13, r14, r15, r16, r17]) xs [] h = .ok (.lst (zs.map Kd.d)) h' ∧ zs.length = xs.length ∧ (∀ z ∈ zs, Gk f 0 1 z) ∧ Inv rest h' := by
  obtain ⟨zs, h', e, l, q, i'⟩ := Kn.lcS (Inv := Inv rest) (turn := lcTurn (.v 10) (evE (F (m + 210)) G c_law_0) (evE (F (m + 210)) G x_law_0) [s, some (.ref 1), r2, r3, some (.int f), r5, r6, r7, r8, r9, none, r11, r12, r13, r14, r15, r16, r17]) Kd.d (Gk f 0 1) (xs := xs) (acc := []) i (by
    intro x _ h i
    obtain ⟨kd, h', e, i', g⟩ := k6 (m := m) i f 1 (di := 1) rfl hf (by omega)
    exact ⟨kd, _, by simp [e], g, i'⟩)
  exact ⟨zs, h', e, l, q, i'⟩
theorem loop_t {ks : Ks} {f : Nat} (hf : f ≤ EL) (o : ks.ok TW f 0) (t : ks.tw) (d : ks.dw ≤ 64) (s r1 r2 r3 r4 r5 r6 r7 r8 r9 r10 r12 r13 r14 r15 r16 r17 : Option D) :
    lcLoop (fun _ => true) (lcTurn (.v 11) (evE (F (m + 210)) G c_law_1) (evE (F (m + 210)) G x_law_1) [s, r1, r2, r3, r4, r5, r6, r7, r8, r9, r10, none, r12, r13, r14, r15, r16, r17]) ks.ds [] h = .ok (.lst ks.cls.ds) h := by
  have e := lcA (turn := lcTurn (.v 11) (evE (F (m + 210)) G c_law_1) (evE (F (m + 210)) G x_law_1) [s, r1, r2, r3, r4, r5, r6, r7, r8, r9, r10, none, r12, r13, r14, r15, r16, r17]) (h := h) (acc := []) ((closeds (m := m) (h := h) hf ks o t d).imp fun x y p => by simp [p])
  simpa using e
theorem loop_u {zs : List Kd} {f : Nat} (hf : f ≤ EL) (q : ∀ z ∈ zs, Gk f 0 1 z) (s r1 r2 r3 r4 r5 r6 r7 r8 r9 r10 r12 r13 r14 r15 r16 r17 : Option D) :
    lcLoop (fun _ => true) (lcTurn (.v 11) (evE (F (m + 210)) G c_law_2) (evE (F (m + 210)) G x_law_2) [s, r1, r2, r3, r4, r5, r6, r7, r8, r9, r10, none, r12, r13, r14, r15, r16, r17]) (zs.map Kd.d) [] h = .ok (.lst (zs.map fun z => z.cl.d)) h := by
  have e := PW.lcMm (turn := lcTurn (.v 11) (evE (F (m + 210)) G c_law_2) (evE (F (m + 210)) G x_law_2) [s, r1, r2, r3, r4, r5, r6, r7, r8, r9, r10, none, r12, r13, r14, r15, r16, r17]) (h := h) (acc := []) Kd.d (fun z => z.cl.d) (zs := zs) (by
    intro z hz
    have g := q z hz
    have e := c6 (m := m) (h := h) g.ok g.tw hf (by have := g.dw; omega)
    simp [e])
  rw [e, List.nil_append]
theorem stD (i : Inv rest h) {f : Nat} (hf : f ≤ 3) {k : Kd} (g : Gk f 0 4 k) (s r2 r3 r6 r7 r8 r9 r12 r13 r14 r15 r16 r17 : Option D) :
    ∃ (q6 q8 q9 q12 : Option D) (h' : Hh), evS (F (m + 210)) G sD [s, some (.ref 1), r2, r3, some (.int f), some k.d, r6, r7, r8, r9, none, none, r12, r13, r14, r15, r16, r17] h = .nxt [s, some (.ref 1), r2, r3, some (.int f), some k.d, q6, r7, q8, q9, none, none, q12, r13, r14, r15, r16, r17] h' ∧ Inv rest h' := by
  by_cases hn : Kd.nm k = Str.ofString "not"
  · obtain ⟨n, ks, rfl⟩ : ∃ n ks, k = .mn (.not n) ks := by
      cases k with
      | un w inner => cases w <;> simp [Kd.nm] at hn
      | mn w ks => cases w <;> first | exact ⟨_, _, rfl⟩ | (simp [Kd.nm] at hn)
      | _ => simp [Kd.nm] at hn
    have hdw : ks.dw + 2 ≤ 29 := g.dw
    have hn4 : n ≤ 10000 := g.ok.2.1
    have oi : ks.ok TW f n := by have := g.ok.2.2.2; simpa only [Mn.bn, Nat.zero_add] using this
    have hEL : f ≤ EL := by have := EL_big; omega
    have hdp := deps_dw ks
    have hdc := cls_dep ks
    have hks := g.tw.1
    obtain ⟨zs, h1, e1, l1, q1, i1⟩ := loop_p (m := m) f n (by omega) i s r2 r3 (some (Kd.mn (.not n) ks).d) r6 r7 r8 r9 none r12 r13 r14 r15 r16 r17 (rngD 0 (n : Int))
    have lz : zs.length = n := by rw [l1, rngD_len]; omega
    have os : ∀ x ∈ zs, x.ok TW f 0 := fun x hx => (q1 x hx).ok
    have oX := opns_ok (ss := zs) os (k := ks) (by rw [lz]; exact oi)
    have tX := trs_tw (putG_tw (ss := zs) fun x hx => (q1 x hx).tw) ks 0 g.tw.2
    have dX := trs_dw (N := 7) (putG_dw (ss := zs) fun x hx => by have := (q1 x hx).dw; omega) ks 0
    have s1 : C (m + 210) n_opened [(Kd.mn (.not n) ks).d, .tup (zs.map Kd.d)] h1 = .ok (.tup (ks.tr (putG zs) 0).ds) h1 := o6 (ss := zs) (tw_sm _ g.tw) rfl (by show ks.dep + 1 ≤ 200; omega)
    have s2 := fun r9 => loop_t (m := m) (h := h1) hEL oX tX (by omega) s (some (.ref 1)) r2 r3 (some (.int f)) (some (Kd.mn (.not n) ks).d) r6 r7 r8 r9 none r12 r13 r14 r15 r16 r17
    have s3 : C (m + 210) n_closed_kind [(Kd.mn (.not n) ks).d] h1 = .ok (Kd.mn (.not n) ks).cl.d h1 := c6 g.ok g.tw hEL (by have := g.dw; omega)
    have s4 : C (m + 210) n_opened [(Kd.mn (.not n) ks).cl.d, .tup [.tup [.str "free", .int (f : Int)]]] h1 = .ok (Kd.op ((Kd.mn (.not n) ks).cl.inn (putG [.free f]) 0)) h1 := o6 (ss := [.free f]) (tw_cl _ g.tw) rfl (by have := cl_dep (Kd.mn (.not n) ks); simp only [Kd.dep] at this; omega)
    have e5 : ∃ z, Kd.op ((Kd.mn (.not n) ks).cl.inn (putG [.free f]) 0) = .tup [.str "row", .tup [(Kd.mn (.not n) (.cons .non (.free f) ks.cls)).d, z]] := by
      have ud : (ks.cls.tr upG n).tr (putG [.free f]) n = ks.cls := up_down (.free f) ks.cls n
      refine ⟨((Kd.var 0).tr (putG [.free f]) 0).d, ?_⟩
      simp only [Kd.cl, Kd.inn, Kd.op, Kd.tr, Ks.tr, Mn.bn, Nat.zero_add, ud]
      simp [Kd.d, Ks.ds, putG]
    obtain ⟨z, e5⟩ := e5
    rw [e5] at s4
    have hl2 : (zs.map fun z : Kd => z.cl.d) = kds (zs.map Kd.cl) := by simp [kds]
    have s5 := fun r6 r8 r12 => loop_u (m := m) (h := h1) hEL q1 s (some (.ref 1)) r2 r3 (some (.int f)) (some (Kd.mn (.not n) ks).d) r6 r7 r8 (some (.tup (zs.map Kd.d))) none r12 r13 r14 r15 r16 r17
    have s6 : C (m + 210) n_opened [(Kd.mn (.not n) (.cons .non (.free f) ks.cls)).d, .tup (zs.map fun z : Kd => z.cl.d)] h1 = .ok (.tup ((Kd.free f).d :: (ks.cls.tr (putG (zs.map Kd.cl)) 0).ds)) h1 := by
      rw [hl2]
      exact o6 (ss := zs.map Kd.cl) (d := .mn (.not n) (.cons .non (.free f) ks.cls)) ⟨by show ks.cls.len + 1 ≤ 1000; rw [cls_len]; omega, trivial, tws_cl ks g.tw.2⟩ rfl (by show max 0 ks.cls.dep + 1 ≤ 200; omega)
    have eq : (ks.tr (putG zs) 0).cls = ks.cls.tr (putG (zs.map Kd.cl)) 0 := cls_put (ss := zs) (fun x hx => by
      (obtain ⟨y, hy, rfl⟩ := List.mem_map.mp hx)
      exact ⟨f, ok_wk _ (cl_ok y (os y hy))⟩) ks 0
    have pR := cls_pl oX tX
    have hcw : max ks.cw 1 + 5 ≤ 53 := g.cw
    have cX := trs_cwN (N := 13) (putG_cw (ss := zs) fun x hx => by have := (q1 x hx).cw; omega) ks 0
    have dR := ks_dep4 oX
    have lR : (ks.tr (putG zs) 0).cls.ds.length = ks.len := by rw [ds_len, cls_len, tr_len]
    have lX : (ks.tr (putG zs) 0).ds.length = ks.len := by rw [ds_len, tr_len]
    rw [← eq] at s6
    generalize hR : (ks.tr (putG zs) 0).cls.ds = R at s2 s6 pR dR lR
    generalize hX : (ks.tr (putG zs) 0).ds = X at s1 s2 lX
    have s8 : C (m + 210) n__law_alike [.lst R, .lst R] h1 = .ok (.bl true) h1 := a6 (by simp only [pl, Bool.and_eq_true, decide_eq_true_eq]; exact ⟨by omega, pR⟩) (by show D.deps R + 1 ≤ 200; omega)
    have hr : rngOk 0 (n : Int) = true := K32.rng_ok (by omega) (by omega)
    have hz : (rngD 0 (n : Int)).length ≤ 16777216 := by rw [rngD_len]; omega
    have hX2 : X.length ≤ 16777216 := by omega
    have hz2 : zs.length ≤ 16777216 := by omega
    have ei : ∀ h : Hh, opIdx h (Kd.mn (.not n) ks).d (.int 1) = some (.int (n : Int)) := fun h => by simp [Kd.d]
    have nf := ne_free (h := h1) f
    generalize hkd : (Kd.mn (.not n) ks).d = kd at e1 s1 s2 s3 s5 ei ⊢
    have hn0 : opIdx h1 kd (.int 0) = some (.str "not") := by rw [← hkd]; simp [Kd.d]
    have hn0' : opIdx h kd (.int 0) = some (.str "not") := by rw [← hkd]; simp [Kd.d]
    generalize (Kd.mn (.not n) ks).cl.d = kc at s3 s4
    generalize (Kd.mn (.not n) (.cons .non (.free f) ks.cls)).d = kf at s4 s6
    generalize (Kd.free f).d = ff at s6 nf
    refine ⟨some (.tup (ff :: R)), some (.lst R), some (.tup (zs.map Kd.d)), some kf, h1, ?_, i1⟩
    simp -implicitDefEqProofs [sD, headS, tailN, b_tb, b_law, hn0, hn0', ei, hr, hz, e1, s1, hX2, s2, s3, s4, hz2, s5, s6, list_tupO, tuple_lstO, s8, nf]
  · exact ⟨r6, r8, r9, r12, h, by simp -implicitDefEqProofs [sD, headS, tailN, b_tb, b_law, idx0, hn], i⟩
end
end K32
end

section
set_option maxRecDepth 100000
namespace K32
open PySem PV Kn
section
variable {h : Hh} {m : Nat}
theorem app_ok {xs : List D} {x : D} (i : Inv [.lst xs] h) (hz : xs.length + 1 ≤ 16777216) : (D.ref 2).isL h = true ∧ ∃ h', mthOp .append (.ref 2) [x] h = .ok .non h' ∧ Inv [.lst (xs ++ [x])] h' := by
  obtain ⟨gs, b, c, rfl, ok⟩ := i
  refine ⟨rfl, _, PW.mt_app (xs := xs) rfl hz, gs, b, c, rfl, ok⟩
theorem te_eq : b_tb = .cons (.asg 4 (.call 18 (.cons (.var 1) (.cons (.con (.int 4)) .nil)))) (.cons (.asg 5 (.call 25 (.cons (.var 1) (.cons (.var 4) (.cons (.bin .add (.con (.int 1)) (.call 18 (.cons (.var 1) (.cons (.con (.int 4)) .nil)))) .nil))))) (.cons (.asg 6 (.call 27 (.cons (.var 5) .nil))) (.cons (.ite (.not (.call 20 (.cons (.lst (.cons (.call 16 (.cons (.var 5) .nil)) (.cons (.callK 16 (.nil) (.cons (.var 5) .nil) [0]) .nil))) (.cons (.lst (.cons (.var 6) (.cons (.var 6) .nil))) .nil)))) (.cons (.ret (.con (.bl false))) .nil) (.nil)) (.cons (.exp (.mth .append (.var 2) (.cons (.var 5) .nil))) (.cons sB (.cons sC (.cons sD b_te))))))) := rfl
theorem bent_end {rest : Hh} (i : Inv rest h) {f : Nat} (hf : f ≤ 3) {k : Kd} (g : Gk f 0 4 k) (s r2 r3 r4 r6 r7 r8 r9 r10 r11 r12 r13 r14 r15 r16 r17 : Option D) :
    ∃ (q13 : Option D) (h' : Hh), evSs (F (m + 210)) G b_te [s, some (.ref 1), r2, r3, r4, some k.d, r6, r7, r8, r9, r10, r11, r12, r13, r14, r15, r16, r17] h = .nxt [s, some (.ref 1), r2, r3, r4, some k.d, r6, r7, r8, r9, r10, r11, r12, q13, r14, r15, r16, r17] h' ∧ Inv rest h' := by
  have hdw := g.dw
  have hEL : f ≤ EL := by have := EL_big; omega
  have hdp := dep_dw k
  obtain ⟨x, h1, e1, ⟨px, qx⟩, i1⟩ := b6 (m := m) (n := k.dw) (by omega) (kd_pw g.ok g.tw (Nat.le_refl _)) (kd_q9 hEL k 0 g.ok g.tw (by omega)) i
  obtain ⟨b, e2, e3⟩ := j6 (m := m) (h := h1) px qx (by omega)
  have a0 : L2.atI [D.str "kind", D.str ""] 0 = some (.str "kind") := rfl
  have a1 : L2.atI [D.str "kind", D.str ""] 1 = some (.str "") := rfl
  refine ⟨some x, h1, ?_, i1⟩
  cases b <;> simp -implicitDefEqProofs at e2 e3 <;> simp -implicitDefEqProofs [b_te, tailN, b_tb, b_law, e1, e2, e3, a0, a1]
theorem turn_ok {ks : List Kd} (i : Inv [.lst (ks.map Kd.d)] h) (hk : ∀ k ∈ ks, Gk 3 0 4 k) (hl : ks.length ≤ 1000) (s r3 r4 r5 r6 r7 r8 r9 r12 r13 r14 r15 r16 r17 : Option D) :
    ∃ (k : Kd) (q4 q5 q6 q7 q8 q9 q12 q13 : Option D) (h' : Hh), evSs (F (m + 210)) G b_tb [s, some (.ref 1), some (.ref 2), r3, r4, r5, r6, r7, r8, r9, none, none, r12, r13, r14, r15, r16, r17] h = .nxt [s, some (.ref 1), some (.ref 2), r3, q4, q5, q6, q7, q8, q9, none, none, q12, q13, r14, r15, r16, r17] h' ∧ Inv [.lst ((ks ++ [k]).map Kd.d)] h' ∧ Gk 3 0 4 k := by
  obtain ⟨v, h1, e1, v0, v1, i1⟩ := d6 (m := m) i (many := 4) (by omega) (by omega)
  obtain ⟨f, rfl⟩ : ∃ n : Nat, v = (n : Int) := ⟨v.toNat, by omega⟩
  obtain ⟨v2, h2, e2, w0, w1, i2⟩ := d6 (m := m) i1 (many := 4) (by omega) (by omega)
  obtain ⟨kd, h3, e3, i3, g'⟩ := k6 (m := m) i2 f (1 + v2).toNat (di := 1 + v2) (by omega) (by omega) (by omega)
  have g : Gk f 0 4 kd := g'.up (Nat.le_refl _) (Nat.le_refl _) (by omega)
  have hdw := g.dw
  have hdp := dep_dw kd
  have hEL : f ≤ EL := by have := EL_big; omega
  have s1 : C (m + 210) n_closed_kind [kd.d] h3 = .ok kd.cl.d h3 := c6 g.ok g.tw hEL (by omega)
  have s2 : C (m + 210) n__law_closed [kd.d] h3 = .ok kd.cl.d h3 := lc6 g.ok g.tw (by omega)
  have p := cl_pl g.ok g.tw
  have hcw := g.cw
  have dd := kd_dep4 g.ok
  have s3 : C (m + 210) n__law_alike [.lst [kd.cl.d, kd.cl.d], .lst [kd.cl.d, kd.cl.d]] h3 = .ok (.bl true) h3 := a6 (by simp [pl, pls, p]) (by simp [D.dep, D.deps]; omega)
  obtain ⟨al, h4, e4, i4⟩ := app_ok (x := kd.d) i3 (by rw [List.length_map]; omega)
  obtain ⟨q6, q7, q8, h5, e5, i5⟩ := stB (m := m) i4 (f := f) (by omega) g s (some (.ref 2)) r3 r7 r8 r9 none none r12 r13 r14 r15 r16 r17
  have e6 := stC (m := m) i5 (f := f) (by omega) g s (some (.ref 2)) r3 (some (.int f)) q6 q7 q8 r9 none none r12 r13 r14 r15 r16 r17
  obtain ⟨p6, p8, p9, p12, h6, e7, i6⟩ := stD (m := m) i5 (f := f) (by omega) g s (some (.ref 2)) r3 q6 q7 q8 r9 r12 r13 r14 r15 r16 r17
  obtain ⟨q13, h7, e8, i7⟩ := bent_end (m := m) i6 (f := f) (by omega) g s (some (.ref 2)) r3 (some (.int f)) p6 q7 p8 p9 none none p12 r13 r14 r15 r16 r17
  refine ⟨kd, some (.int f), some kd.d, p6, q7, p8, p9, p12, q13, h7, ?_, by rw [List.map_append]; exact i7, g.up (by omega) (Nat.le_refl _) (Nat.le_refl _)⟩
  rw [te_eq]
  generalize kd.cl.d = kc at s1 s2 s3 e5
  generalize kd.d = kk at e3 s1 s2 e4 e5 e6 e7 e8
  generalize sB = sb at e5 ⊢
  generalize sC = sc at e6 ⊢
  generalize sD = sd at e7 ⊢
  generalize b_te = te at e8 ⊢
  simp -implicitDefEqProofs [e1, e2, e3, s1, s2, s3, pmD, al, e4, e5, e6, e7, e8]
/-! ### the seen ones, pair by pair -/
theorem forK {good : Hh → Bool} {t : Tg} {body : PV.Env → Hh → RS} (hg : good h = true) (I : PV.Env → Prop) : ∀ {xs : List D} {ρ : PV.Env}, I ρ → (∀ x ∈ xs, ∀ ρ, I ρ → ∃ ρ1 ρ2, t.put x ρ = some ρ1 ∧ body ρ1 h = .nxt ρ2 h ∧ I ρ2) → ∃ ρ', forLoop good t body xs ρ h = .nxt ρ' h ∧ I ρ'
  | [], ρ, hi, _ => ⟨ρ, by unfold forLoop; rw [if_pos hg], hi⟩
  | x :: xs, ρ, hi, st => by
    obtain ⟨ρ1, ρ2, e1, e2, i2⟩ := st x List.mem_cons_self ρ hi
    obtain ⟨ρ', e3, i3⟩ := forK hg I (xs := xs) i2 fun y hy => st y (List.mem_cons_of_mem _ hy)
    refine ⟨ρ', ?_, i3⟩
    unfold forLoop
    rw [if_pos hg, e1]
    dsimp only
    rw [e2]
    exact e3
theorem lcK {good : Hh → Bool} {turn : D → Hh → R (Option D)} (hg : good h = true) : ∀ {xs acc : List D}, (∀ x ∈ xs, turn x h = .ok none h) → lcLoop good turn xs acc h = .ok (.lst acc) h
  | [], acc, _ => by unfold lcLoop; rw [if_pos hg]
  | x :: xs, acc, t => by
    unfold lcLoop
    rw [if_pos hg, t x List.mem_cons_self]
    dsimp only
    exact lcK hg fun y hy => t y (List.mem_cons_of_mem _ hy)
mutual
theorem nb_same : ∀ d : D, nb d = true → D.same d d = true
  | .int i, _ => by simp [D.same]
  | .str x, _ => by simp [D.same]
  | .tup xs, h => nbs_same xs h
  | .non, h => by cases h
  | .bl _, h => by cases h
  | .lst _, h => by cases h
  | .ref _, h => by cases h
  | .fz _, h => by cases h
  | .ftup _, h => by cases h
  | .exc _, h => by cases h
  | .exf _ _ _, h => by cases h
theorem nbs_same : ∀ xs : List D, nbs xs = true → D.sames xs xs = true
  | [], _ => rfl
  | x :: xs, h => by
    simp only [nbs, Bool.and_eq_true] at h
    show (D.same x x && D.sames xs xs) = true
    rw [nb_same x h.1, nbs_same xs h.2]; rfl
end
theorem kds_nb : ∀ {ks : List Kd}, (∀ k ∈ ks, Gk 3 0 4 k) → nbs (ks.map Kd.d) = true
  | [], _ => rfl
  | k :: r, h => by
    show (nb k.d && nbs (r.map Kd.d)) = true
    rw [nr_nb k (tw_nr (h k List.mem_cons_self).ok), kds_nb fun x hx => h x (List.mem_cons_of_mem _ hx)]; rfl
theorem eq_kd {a b : D} (ha : P64 a) (hb : P64 b) : opCmp .eq h a b = some (a.eqv b) := by
  have pl_res : ∀ x : D, P64 x → x.res h = x := by intro x hx; cases x <;> first | rfl | cases hx.1
  have e : opEq h a b = if D.cok (a.res h) (b.res h) then some ((a.res h).eqv (b.res h)) else none := by
    unfold opEq
    split
    · rename_i x y
      show _ = if D.cok (D.str x) (D.str y) = true then _ else _
      rw [cok_shp ha.shp hb.shp]; rfl
    · rfl
  show opEq h a b = _
  rw [e, pl_res a ha, pl_res b hb, cok_shp ha.shp hb.shp]; rfl
theorem ne_same (p : Bool) : opCmp .ne h (.bl p) (.bl p) = some false := by cases p <;> rfl
theorem cl_p64 {k : Kd} (g : Gk 3 0 4 k) : P64 k.cl.d := by
  refine ⟨cl_pl g.ok g.tw, ?_⟩
  rw [dw_eq _ (tw_nr (cl_ok k g.ok))]
  have := cl_dw k
  have := g.cw
  omega
theorem kd_p64 {k : Kd} (g : Gk 3 0 4 k) : P64 k.d := (kd_pw g.ok g.tw (Nat.le_refl _)).p64 (by have := g.dw; omega)
def b_sn : Ss := .cons (.ite (.cmp .ne (e_law_3) (.lst (.nil))) (.cons (.ret (.con (.bl false))) .nil) (.nil)) .nil
theorem src_2 {xs : List D} (i : Inv [.lst xs] h) : (D.ref 2).src h = some ⟨xs, some 2⟩ ∧ (nbs xs = true → (Src.mk xs (some 2)).good h = true) := by
  obtain ⟨gs, b, c, rfl, ok⟩ := i
  exact ⟨rfl, fun e => nbs_same xs e⟩
theorem seen_turn {ks : List Kd} (i : Inv [.lst (ks.map Kd.d)] h) (hk : ∀ k ∈ ks, Gk 3 0 4 k) (hl : ks.length ≤ 1000) {k : Kd} (g : Gk 3 0 4 k) (s r1 r3 r4 r6 r7 r8 r9 r10 r11 r12 r13 r14 r15 r16 : Option D) :
    evSs (F (m + 210)) G b_sn [s, r1, some (.ref 2), r3, r4, some k.d, r6, r7, r8, r9, r10, r11, r12, r13, r14, r15, r16, none] h = .nxt [s, r1, some (.ref 2), r3, r4, some k.d, r6, r7, r8, r9, r10, r11, r12, r13, r14, r15, r16, none] h := by
  obtain ⟨e1, e2⟩ := src_2 i
  have hEL : 3 ≤ EL := by have := EL_big; omega
  have l := lcK (h := h) (turn := lcTurn (.v 17) (evE (F (m + 210)) G c_law_3) (evE (F (m + 210)) G x_law_3) [s, r1, some (.ref 2), r3, r4, some k.d, r6, r7, r8, r9, r10, r11, r12, r13, r14, r15, r16, none]) (e2 (kds_nb hk)) (xs := ks.map Kd.d) (acc := []) (by
    intro x hx
    obtain ⟨a, ha, rfl⟩ := List.mem_map.mp hx
    have ga := hk a ha
    have c1 := c6 (m := m) (h := h) ga.ok ga.tw hEL (by have := ga.dw; omega)
    have c2 := c6 (m := m) (h := h) g.ok g.tw hEL (by have := g.dw; omega)
    have q1 := eq_kd (h := h) (cl_p64 ga) (cl_p64 g)
    have q2 := eq_kd (h := h) (kd_p64 ga) (kd_p64 g)
    rw [cl_eqv ga.ok g.ok ga.nt g.nt] at q1
    have q3 := ne_same (h := h) (a.d.eqv k.d)
    simp -implicitDefEqProofs [c1, c2, q1, q2, q3])
  have hz : (ks.map Kd.d).length ≤ 16777216 := by rw [List.length_map]; omega
  have e3 : opCmp .ne h (.lst []) (.lst []) = some false := rfl
  generalize ks.map Kd.d = xs at *
  simp -implicitDefEqProofs [b_sn, e1, hz, l, e3]
/-! ### the law -/
def b_l3 : Ss := tailN 3 b_law
theorem b_law_eq : b_law = .cons (.asg 1 (.call 17 (.cons (.var 0) .nil))) (.cons (.asg 2 (.new (.lst (.nil)))) (.cons (.for_ (.v 3) (.rng (.con (.int 5))) b_tb) b_l3)) := rfl
def b_gr : Ss := .cons (.asg 16 (.tup (.cons (.con (.str "row")) (.cons (.tup (.cons (.var 16) (.cons (.tup (.cons (.con (.str "cell")) (.cons (.var 16) .nil))) .nil))) .nil)))) .nil
def farK (v : Nat) : Kd := .mn (.not 1) (.cons .non (.free (10 ^ 60 + v)) (.cons .non (.var 0) .nil))
def wideK (n : Nat) : Kd := .mn (.not n) (.cons .non (.var 9998) (.cons .non (.un .re (.mn (.not 1) (.cons .non (.var 0) (.cons .non (.var 1) (.cons .non (.var 5) .nil))))) .nil))
def grK : Kd := .mn (.not 1) (.cons .non (.var 0) (.cons .non (.free 1) .nil))
theorem far_ok {v : Nat} (hv : v < 9) : (farK v).ok TW EL 0 ∧ (farK v).tw := by
  have := EL_60
  refine ⟨⟨by simp [TW], by show 1 ≤ 10000; omega, trivial, by show 10 ^ 60 + v < EL; omega, by show 0 < 0 + 1; omega, trivial⟩, by show 2 ≤ 900; omega, trivial, trivial, trivial⟩
theorem wide_ok {n : Nat} (h1 : 9999 ≤ n) (h2 : n ≤ 10000) : (wideK n).ok TW EL 0 ∧ (wideK n).tw := by
  refine ⟨⟨by simp [TW], h2, trivial, by show 9998 < 0 + n; omega, ⟨by simp [TW], (fun _ => by simp [Kd.d, hdV]), by simp [TW], by show 1 ≤ 10000; omega, trivial, by show 0 < 0 + n + 1 + 1; omega, by show 1 < 0 + n + 1 + 1; omega, by show 5 < 0 + n + 1 + 1; omega, trivial⟩, trivial⟩, by show 2 ≤ 900; omega, trivial, ⟨by show 3 ≤ 900; omega, trivial, trivial, trivial, trivial⟩, trivial⟩
theorem gr_ok : grK.ok TW EL 0 ∧ grK.tw := by
  have := EL_big
  refine ⟨⟨by simp [TW], by show 1 ≤ 10000; omega, trivial, by show 0 < 0 + 1; omega, by show 1 < EL; omega, trivial⟩, by show 2 ≤ 900; omega, trivial, trivial, trivial⟩
theorem grow_ok {k : Kd} (o : k.ok TW EL 0) (t : k.tw) : (Kd.mn .row (.cons .non k (.cons .non (.un .cel k) .nil))).ok TW EL 0 ∧ (Kd.mn .row (.cons .non k (.cons .non (.un .cel k) .nil))).tw :=
  ⟨⟨by simp [TW], Nat.zero_le _, trivial, o, ⟨by simp [TW], (fun e => nomatch e), o⟩, trivial⟩, by show 2 ≤ 900; omega, t, t, trivial⟩
theorem great_loop (n : Nat) (hn : n ≤ 8) (s r1 r2 r3 r4 r5 r6 r7 r8 r9 r12 r13 r14 r15 : Option D) :
    ∃ (k : Kd) (q3 : Option D), forLoop (fun _ => true) (.v 3) (evSs (F (m + 210)) G b_gr) (rngD 0 (n : Int)) [s, r1, r2, r3, r4, r5, r6, r7, r8, r9, none, none, r12, r13, r14, r15, some grK.d, none] h = .nxt [s, r1, r2, q3, r4, r5, r6, r7, r8, r9, none, none, r12, r13, r14, r15, some k.d, none] h ∧ k.ok TW EL 0 ∧ k.tw ∧ k.dw ≤ 30 ∧ k.cw ≤ 30 := by
  obtain ⟨ρ', h', e, k, q3, e1, e2, o, t, d, dc⟩ := PW.forP (t := .v 3) (body := evSs (F (m + 210)) G b_gr) (fun done ρ hh => ∃ (k : Kd) (q3 : Option D), ρ = [s, r1, r2, q3, r4, r5, r6, r7, r8, r9, none, none, r12, r13, r14, r15, some k.d, none] ∧ hh = h ∧ k.ok TW EL 0 ∧ k.tw ∧ k.dw ≤ 3 * done.length + 3 ∧ k.cw ≤ 3 * done.length + 6) (all := rngD 0 (n : Int)) (by
      rintro d x r _ ρ hh ⟨k, q3, rfl, rfl, o, t, dw, dc⟩
      obtain ⟨o2, t2⟩ := grow_ok o t
      refine ⟨_, _, _, rfl, ?_, Kd.mn .row (.cons .non k (.cons .non (.un .cel k) .nil)), some x, rfl, rfl, o2, t2, ?_, ?_⟩
      · simp -implicitDefEqProofs [b_gr, Kd.d, Ks.ds]
      · simp only [Kd.dw, Ks.dw, List.length_append, List.length_cons, List.length_nil]; omega
      · simp only [Kd.cw, Ks.cw, List.length_append, List.length_cons, List.length_nil]; omega) (xs := rngD 0 (n : Int)) (done := []) rfl
    (ρ := [s, r1, r2, r3, r4, r5, r6, r7, r8, r9, none, none, r12, r13, r14, r15, some grK.d, none]) (h := h) ⟨grK, r3, rfl, rfl, gr_ok.1, gr_ok.2, by show grK.dw ≤ 3; simp [grK, Kd.dw, Ks.dw], by show grK.cw ≤ 6; simp [grK, Kd.cw, Ks.cw]⟩
  subst e1 e2
  rw [rngD_len] at d dc
  exact ⟨k, q3, e, o, t, by omega, by omega⟩
end
end K32
end

section
set_option maxRecDepth 100000
namespace K32
open PySem PV Kn
section
variable {h : Hh} {m : Nat}
theorem turns_ok (i : Inv [.lst []] h) (s : Option D) :
    ∃ (ks : List Kd) (q3 q4 q5 q6 q7 q8 q9 q12 q13 : Option D) (h' : Hh), forLoop (fun _ => true) (.v 3) (evSs (F (m + 210)) G b_tb) (rngD 0 5) [s, some (.ref 1), some (.ref 2), none, none, none, none, none, none, none, none, none, none, none, none, none, none, none] h = .nxt [s, some (.ref 1), some (.ref 2), q3, q4, q5, q6, q7, q8, q9, none, none, q12, q13, none, none, none, none] h' ∧ Inv [.lst (ks.map Kd.d)] h' ∧ (∀ k ∈ ks, Gk 3 0 4 k) ∧ ks.length ≤ 5 := by
  obtain ⟨ρ', h', e, ks, q3, q4, q5, q6, q7, q8, q9, q12, q13, rfl, i', hk, hl⟩ := PW.forP (t := .v 3) (body := evSs (F (m + 210)) G b_tb) (fun done ρ hh => ∃ (ks : List Kd) (q3 q4 q5 q6 q7 q8 q9 q12 q13 : Option D), ρ = [s, some (.ref 1), some (.ref 2), q3, q4, q5, q6, q7, q8, q9, none, none, q12, q13, none, none, none, none] ∧ Inv [.lst (ks.map Kd.d)] hh ∧ (∀ k ∈ ks, Gk 3 0 4 k) ∧ ks.length = done.length) (all := rngD 0 5) (by
      rintro d x r hall ρ hh ⟨ks, q3, q4, q5, q6, q7, q8, q9, q12, q13, rfl, i, hk, hl⟩
      have hd : d.length ≤ 5 := by
        have : (d ++ x :: r).length = 5 := by rw [hall]; rfl
        rw [List.length_append] at this
        omega
      obtain ⟨k, p4, p5, p6, p7, p8, p9, p12, p13, h', e, i', g⟩ := turn_ok (m := m) i hk (by omega) s (some x) q4 q5 q6 q7 q8 q9 q12 q13 none none none none
      refine ⟨_, _, h', rfl, e, ks ++ [k], some x, p4, p5, p6, p7, p8, p9, p12, p13, rfl, i', ?_, by simp [hl]⟩
      intro y hy
      (rcases List.mem_append.mp hy with hy | hy)
      · exact hk y hy
      · rw [List.mem_singleton.mp hy]; exact g) (xs := rngD 0 5) (done := []) rfl
    (ρ := [s, some (.ref 1), some (.ref 2), none, none, none, none, none, none, none, none, none, none, none, none, none, none, none]) (h := h) ⟨[], none, none, none, none, none, none, none, none, none, rfl, i, by simp, rfl⟩
  exact ⟨ks, q3, q4, q5, q6, q7, q8, q9, q12, q13, h', e, i', hk, by rw [hl]; exact Nat.le_refl 5⟩
theorem seen_ok {ks : List Kd} (i : Inv [.lst (ks.map Kd.d)] h) (hk : ∀ k ∈ ks, Gk 3 0 4 k) (hl : ks.length ≤ 1000) (s r1 r3 r4 r5 r6 r7 r8 r9 r10 r11 r12 r13 r14 r15 r16 : Option D) :
    ∃ q5, forLoop (Src.mk (ks.map Kd.d) (some 2)).good (.v 5) (evSs (F (m + 210)) G b_sn) (ks.map Kd.d) [s, r1, some (.ref 2), r3, r4, r5, r6, r7, r8, r9, r10, r11, r12, r13, r14, r15, r16, none] h = .nxt [s, r1, some (.ref 2), r3, r4, q5, r6, r7, r8, r9, r10, r11, r12, r13, r14, r15, r16, none] h := by
  obtain ⟨ρ', e, q5, rfl⟩ := forK (h := h) (t := .v 5) (body := evSs (F (m + 210)) G b_sn) ((src_2 i).2 (kds_nb hk)) (fun ρ => ∃ q5, ρ = [s, r1, some (.ref 2), r3, r4, q5, r6, r7, r8, r9, r10, r11, r12, r13, r14, r15, r16, none]) (xs := ks.map Kd.d)
    (ρ := [s, r1, some (.ref 2), r3, r4, r5, r6, r7, r8, r9, r10, r11, r12, r13, r14, r15, r16, none]) ⟨r5, rfl⟩ (by
      rintro x hx ρ ⟨q5, rfl⟩
      obtain ⟨k, hkm, rfl⟩ := List.mem_map.mp hx
      exact ⟨_, _, rfl, seen_turn (m := m) i hk hl (hk k hkm) s r1 r3 r4 r6 r7 r8 r9 r10 r11 r12 r13 r14 r15 r16, some k.d, rfl⟩)
  exact ⟨q5, e⟩
theorem pow60 : opBin .pow h (.int 10) (.int 60) = some (.int 1000000000000000000000000000000000000000000000000000000000000) := by
  show (if powOk 10 60 then some (D.int (10 ^ (60 : Int).toNat)) else none) = _
  have : powOk 10 60 = true := by decide +kernel
  rw [if_pos this]
  have : (10 : Int) ^ (60 : Int).toNat = 1000000000000000000000000000000000000000000000000000000000000 := by decide +kernel
  rw [this]
theorem nat60 (v : Nat) : ((10 ^ 60 + v : Nat) : Int) = 1000000000000000000000000000000000000000000000000000000000000 + (v : Int) := by
  have : ((10 ^ 60 : Nat) : Int) = 1000000000000000000000000000000000000000000000000000000000000 := by decide +kernel
  rw [Int.natCast_add, this]
theorem l3_eq : b_l3 = .cons (.asg 14 (.tup (.cons (.con (.str "not")) (.cons (.con (.int 1)) (.cons (.tup (.cons (.tup (.cons (.con (.str "free")) (.cons (.bin .add (.bin .pow (.con (.int 10)) (.con (.int 60))) (.call 18 (.cons (.var 1) (.cons (.con (.int 9)) .nil)))) .nil))) (.cons (.tup (.cons (.con (.str "var")) (.cons (.con (.int 0)) .nil))) .nil))) .nil))))) (.cons (.asg 15 (.tup (.cons (.con (.str "not")) (.cons (.bin .sub (.con (.int 10000)) (.call 18 (.cons (.var 1) (.cons (.con (.int 2)) .nil)))) (.cons (.tup (.cons (.tup (.cons (.con (.str "var")) (.cons (.con (.int 9998)) .nil))) (.cons (.tup (.cons (.con (.str "rec")) (.cons (.tup (.cons (.con (.str "not")) (.cons (.con (.int 1)) (.cons (.tup (.cons (.tup (.cons (.con (.str "var")) (.cons (.con (.int 0)) .nil))) (.cons (.tup (.cons (.con (.str "var")) (.cons (.con (.int 1)) .nil))) (.cons (.tup (.cons (.con (.str "var")) (.cons (.con (.int 5)) .nil))) .nil)))) .nil)))) .nil))) .nil))) .nil))))) (.cons (.asg 16 (.tup (.cons (.con (.str "not")) (.cons (.con (.int 1)) (.cons (.tup (.cons (.tup (.cons (.con (.str "var")) (.cons (.con (.int 0)) .nil))) (.cons (.tup (.cons (.con (.str "free")) (.cons (.con (.int 1)) .nil))) .nil))) .nil))))) (.cons (.for_ (.v 3) (.rng (.bin .add (.con (.int 3)) (.call 18 (.cons (.var 1) (.cons (.con (.int 5)) .nil))))) b_gr) (.cons (.asg 8 (.lst (.cons (.call 16 (.cons (.var 14) .nil)) (.cons (.call 16 (.cons (.var 15) .nil)) (.cons (.call 16 (.cons (.var 16) .nil)) .nil))))) (.cons (.ite (.not (.call 20 (.cons (.var 8) (.cons (.lst (.cons (.call 27 (.cons (.var 14) .nil)) (.cons (.call 27 (.cons (.var 15) .nil)) (.cons (.call 27 (.cons (.var 16) .nil)) .nil)))) .nil)))) (.cons (.ret (.con (.bl false))) .nil) (.nil)) (.cons (.for_ (.v 5) (.ev (.var 2)) b_sn) (.cons (.ret (.con (.bl true))) .nil))))))) := rfl
theorem end_ok {ks : List Kd} (i : Inv [.lst (ks.map Kd.d)] h) (hk : ∀ k ∈ ks, Gk 3 0 4 k) (hl : ks.length ≤ 5) (s r3 r4 r5 r6 r7 r8 r9 r12 r13 : Option D) :
    ∃ h', evSs (F (m + 210)) G b_l3 [s, some (.ref 1), some (.ref 2), r3, r4, r5, r6, r7, r8, r9, none, none, r12, r13, none, none, none, none] h = .ret (.bl true) h' := by
  obtain ⟨v, h1, e1, v0, v1, i1⟩ := d6 (m := m) i (many := 9) (by omega) (by omega)
  obtain ⟨v, rfl⟩ : ∃ n : Nat, v = (n : Int) := ⟨v.toNat, by omega⟩
  obtain ⟨w, h2, e2, w0, w1, i2⟩ := d6 (m := m) i1 (many := 2) (by omega) (by omega)
  obtain ⟨n, hn, hn1, hn2⟩ : ∃ n : Nat, (n : Int) = 10000 - w ∧ 9999 ≤ n ∧ n ≤ 10000 := ⟨(10000 - w).toNat, by omega, by omega, by omega⟩
  obtain ⟨u, h3, e3, u0, u1, i3⟩ := d6 (m := m) i2 (many := 5) (by omega) (by omega)
  obtain ⟨t, ht, ht8⟩ : ∃ n : Nat, (n : Int) = 3 + u ∧ n ≤ 8 := ⟨(3 + u).toNat, by omega, by omega⟩
  obtain ⟨fo, ft⟩ := far_ok (v := v) (by omega)
  obtain ⟨wo, wt⟩ := wide_ok hn1 hn2
  have fd : (farK v).dw ≤ 30 := by simp [farK, Kd.dw, Ks.dw]
  have wd : (wideK n).dw ≤ 30 := by simp [wideK, Kd.dw, Ks.dw]
  obtain ⟨gk, q3, e4, go, gt, gd, gc2⟩ := great_loop (m := m) (h := h3) t ht8 s (some (.ref 1)) (some (.ref 2)) r3 r4 r5 r6 r7 r8 r9 r12 r13 (some (farK v).d) (some (wideK n).d)
  rw [ht] at e4
  have fdp := dep_dw (farK v)
  have wdp := dep_dw (wideK n)
  have gdp := dep_dw gk
  have c1 : C (m + 210) n_closed_kind [(farK v).d] h3 = .ok (farK v).cl.d h3 := c6 fo ft (Nat.le_refl _) (by omega)
  have c2 : C (m + 210) n_closed_kind [(wideK n).d] h3 = .ok (wideK n).cl.d h3 := c6 wo wt (Nat.le_refl _) (by omega)
  have c3 : C (m + 210) n_closed_kind [gk.d] h3 = .ok gk.cl.d h3 := c6 go gt (Nat.le_refl _) (by omega)
  have l1 : C (m + 210) n__law_closed [(farK v).d] h3 = .ok (farK v).cl.d h3 := lc6 fo ft (by omega)
  have l2 : C (m + 210) n__law_closed [(wideK n).d] h3 = .ok (wideK n).cl.d h3 := lc6 wo wt (by omega)
  have l3 : C (m + 210) n__law_closed [gk.d] h3 = .ok gk.cl.d h3 := lc6 go gt (by omega)
  have p1 := cl_pl fo ft
  have p2 := cl_pl wo wt
  have p3 := cl_pl go gt
  have d1 := kd_dep4 fo
  have d2 := kd_dep4 wo
  have d3 := kd_dep4 go
  have fc2 : (farK v).cw ≤ 30 := by simp [farK, Kd.cw, Ks.cw]
  have wc2 : (wideK n).cw ≤ 30 := by simp [wideK, Kd.cw, Ks.cw]
  have al : C (m + 210) n__law_alike [.lst [(farK v).cl.d, (wideK n).cl.d, gk.cl.d], .lst [(farK v).cl.d, (wideK n).cl.d, gk.cl.d]] h3 = .ok (.bl true) h3 := a6 (by simp [pl, pls, p1, p2, p3]) (by simp only [D.dep, D.deps]; omega)
  obtain ⟨q5, e5⟩ := seen_ok (m := m) i3 hk (by omega) s (some (.ref 1)) q3 r4 r5 r6 r7 (some (.lst [(farK v).cl.d, (wideK n).cl.d, gk.cl.d])) r9 none none r12 r13 (some (farK v).d) (some (wideK n).d) (some gk.d)
  have sr := (src_2 i3).1
  have ef : (farK v).d = .tup [.str "not", .int 1, .tup [.tup [.str "free", .int (1000000000000000000000000000000000000000000000000000000000000 + (v : Int))], .tup [.str "var", .int 0]]] := by
    simp only [farK, Kd.d, Ks.ds, nat60]; rfl
  have ew : (wideK n).d = .tup [.str "not", .int (10000 - w), .tup [.tup [.str "var", .int 9998], .tup [.str "rec", .tup [.str "not", .int 1, .tup [.tup [.str "var", .int 0], .tup [.str "var", .int 1], .tup [.str "var", .int 5]]]]]] := by
    simp only [wideK, Kd.d, Ks.ds, hn]; rfl
  have eg : grK.d = .tup [.str "not", .int 1, .tup [.tup [.str "var", .int 0], .tup [.str "free", .int 1]]] := rfl
  generalize (farK v).cl.d = fc at c1 l1 al e5
  generalize (wideK n).cl.d = wc at c2 l2 al e5
  generalize gk.cl.d = gc at c3 l3 al e5
  rw [ef] at c1 l1 e4 e5
  rw [ew] at c2 l2 e4 e5
  rw [eg] at e4
  generalize gk.d = gg at c3 l3 e4 e5
  have hr : rngOk 0 (3 + u) = true := K32.rng_ok (by omega) (by omega)
  refine ⟨h3, ?_⟩
  rw [l3_eq]
  generalize b_gr = bg at e4 ⊢
  generalize b_sn = bs at e5 ⊢
  generalize ks.map Kd.d = xs at e5 sr
  simp -implicitDefEqProofs [pow60, e1, e2, e3, hr, e4, c1, c2, c3, l1, l2, l3, al, sr, e5]
/-- the law, by the evaluator -/
theorem law_ev (ns : List Int) (hn : ns.length ≤ 63) : ∃ h, C (m + 211) n_law [.fz (ns.map D.int)] [] = .ok (.bl true) h := by
  obtain ⟨h1, e1, i1⟩ := spring_ok (k := m + 209) ns hn
  have e1 : C (m + 210) n__law_spring [.fz (ns.map .int)] [] = .ok (.ref 1) h1 := e1
  obtain ⟨gs, b, c, rfl, ok⟩ := i1
  have i2 : Inv [.lst []] (Sp gs b c [.lst []]) := ⟨gs, b, c, rfl, ok⟩
  obtain ⟨ks, q3, q4, q5, q6, q7, q8, q9, q12, q13, h2, e2, i3, hk, hl⟩ := turns_ok (m := m) i2 (some (.fz (ns.map .int)))
  obtain ⟨h3, e3⟩ := end_ok (m := m) i3 hk hl (some (.fz (ns.map .int))) q3 q4 q5 q6 q7 q8 q9 q12 q13
  have hr : rngOk 0 5 = true := by decide +kernel
  have no : newObj (.lst []) (Sp gs b c []) = .ok (.ref 2) (Sp gs b c [.lst []]) := rfl
  refine ⟨h3, ?_⟩
  rw [C_law, b_law_eq]
  generalize b_tb = bt at e2 ⊢
  generalize b_l3 = bl at e3 ⊢
  generalize ns.map D.int = xs at e1 e2 e3 ⊢
  simp -implicitDefEqProofs [e1, no, hr, e2, e3]
end
end K32
end

section
set_option maxRecDepth 100000
set_option maxHeartbeats 0
namespace K32
open PySem PySem.Spec PyProof.Rows L2 PV
def d_is_integer : He.DefD := ⟨("is_integer", none), "is_integer", "is_integer", defArgs (top 4), defBody (top 4), defScope (top 4), [], []⟩
def d_is_tuple_of : He.DefD := ⟨("is_tuple_of", none), "is_tuple_of", "is_tuple_of", defArgs (top 5), defBody (top 5), defScope (top 5), [], []⟩
def d_is_kinds : He.DefD := ⟨("is_kinds", none), "is_kinds", "is_kinds", defArgs (top 8), defBody (top 8), defScope (top 8), [], []⟩
def d_is_pairs : He.DefD := ⟨("is_pairs", none), "is_pairs", "is_pairs", defArgs (top 9), defBody (top 9), defScope (top 9), [], []⟩
def d_has_form : He.DefD := ⟨("has_form", none), "has_form", "has_form", defArgs (top 10), defBody (top 10), defScope (top 10), [], []⟩
def d_is_rising : He.DefD := ⟨("is_rising", none), "is_rising", "is_rising", defArgs (top 11), defBody (top 11), defScope (top 11), [], []⟩
def d_insides : He.DefD := ⟨("insides", none), "insides", "insides", defArgs (top 12), defBody (top 12), defScope (top 12), [], []⟩
def d_binds : He.DefD := ⟨("binds", none), "binds", "binds", defArgs (top 13), defBody (top 13), defScope (top 13), [], []⟩
def d_with_insides : He.DefD := ⟨("with_insides", none), "with_insides", "with_insides", defArgs (top 14), defBody (top 14), defScope (top 14), [], []⟩
def d_is_kind_below : He.DefD := ⟨("is_kind_below", none), "is_kind_below", "is_kind_below", defArgs (top 15), defBody (top 15), defScope (top 15), [], []⟩
def d_is_kind : He.DefD := ⟨("is_kind", none), "is_kind", "is_kind", defArgs (top 16), defBody (top 16), defScope (top 16), [], []⟩
def d_put_below : He.DefD := ⟨("put_below", none), "put_below", "put_below", defArgs (top 17), defBody (top 17), defScope (top 17), [], []⟩
def d_opened : He.DefD := ⟨("opened", none), "opened", "opened", defArgs (top 18), defBody (top 18), defScope (top 18), [], []⟩
def d_unfolded : He.DefD := ⟨("unfolded", none), "unfolded", "unfolded", defArgs (top 19), defBody (top 19), defScope (top 19), [], []⟩
def d_raised : He.DefD := ⟨("raised", none), "raised", "raised", defArgs (top 23), defBody (top 23), defScope (top 23), [], []⟩
def d_hidden_pairs : He.DefD := ⟨("hidden_pairs", none), "hidden_pairs", "hidden_pairs", defArgs (top 24), defBody (top 24), defScope (top 24), [], []⟩
def d_closed_kind : He.DefD := ⟨("closed_kind", none), "closed_kind", "closed_kind", defArgs (top 25), defBody (top 25), defScope (top 25), [], []⟩
def d__law_spring : He.DefD := ⟨("_law_spring", none), "_law_spring", "_law_spring", defArgs (top 27), defBody (top 27), defScope (top 27), [], []⟩
def d__law_drop : He.DefD := ⟨("_law_drop", none), "_law_drop", "_law_drop", defArgs (top 28), defBody (top 28), defScope (top 28), [], []⟩
def d__law_kinds : He.DefD := ⟨("_law_kinds", none), "_law_kinds", "_law_kinds", defArgs (top 29), defBody (top 29), defScope (top 29), [], []⟩
def d__law_alike : He.DefD := ⟨("_law_alike", none), "_law_alike", "_law_alike", defArgs (top 30), defBody (top 30), defScope (top 30), [], []⟩
def d__law_in : He.DefD := ⟨("_law_in", none), "_law_in", "_law_in", defArgs (top 31), defBody (top 31), defScope (top 31), [], []⟩
def d__law_with : He.DefD := ⟨("_law_with", none), "_law_with", "_law_with", defArgs (top 32), defBody (top 32), defScope (top 32), [], []⟩
def d__law_put : He.DefD := ⟨("_law_put", none), "_law_put", "_law_put", defArgs (top 33), defBody (top 33), defScope (top 33), [], []⟩
def d__law_shut : He.DefD := ⟨("_law_shut", none), "_law_shut", "_law_shut", defArgs (top 34), defBody (top 34), defScope (top 34), [], []⟩
def d__law_some_kind : He.DefD := ⟨("_law_some_kind", none), "_law_some_kind", "_law_some_kind", defArgs (top 35), defBody (top 35), defScope (top 35), [], []⟩
def d__law_up : He.DefD := ⟨("_law_up", none), "_law_up", "_law_up", defArgs (top 36), defBody (top 36), defScope (top 36), [], []⟩
def d__law_closed : He.DefD := ⟨("_law_closed", none), "_law_closed", "_law_closed", defArgs (top 37), defBody (top 37), defScope (top 37), [], []⟩
def d__law_is_kind : He.DefD := ⟨("_law_is_kind", none), "_law_is_kind", "_law_is_kind", defArgs (top 38), defBody (top 38), defScope (top 38), [], []⟩
def d__law_bent : He.DefD := ⟨("_law_bent", none), "_law_bent", "_law_bent", defArgs (top 39), defBody (top 39), defScope (top 39), [], []⟩
def d__law_refused : He.DefD := ⟨("_law_refused", none), "_law_refused", "_law_refused", defArgs (top 40), defBody (top 40), defScope (top 40), [], []⟩
def d_law : He.DefD := ⟨("law", none), "law", "law", defArgs (top 41), defBody (top 41), defScope (top 41), [], []⟩
def fn : List He.DefD := [d_is_integer, d_is_tuple_of, d_is_kinds, d_is_pairs, d_has_form, d_is_rising, d_insides, d_binds, d_with_insides, d_is_kind_below, d_is_kind, d_put_below, d_opened, d_unfolded, d_raised, d_hidden_pairs, d_closed_kind, d__law_spring, d__law_drop, d__law_kinds, d__law_alike, d__law_in, d__law_with, d__law_put, d__law_shut, d__law_some_kind, d__law_up, d__law_closed, d__law_is_kind, d__law_bent, d__law_refused, d_law]
def fa : List He.Fa := [.glo "is_integer", .glo "is_tuple_of", .glo "is_kinds", .glo "is_pairs", .glo "has_form", .glo "is_rising", .glo "insides", .glo "binds", .glo "with_insides", .glo "is_kind_below", .glo "is_kind", .glo "put_below", .glo "opened", .glo "unfolded", .glo "raised", .glo "hidden_pairs", .glo "closed_kind", .glo "_law_spring", .glo "_law_drop", .glo "_law_kinds", .glo "_law_alike", .glo "_law_in", .glo "_law_with", .glo "_law_put", .glo "_law_shut", .glo "_law_some_kind", .glo "_law_up", .glo "_law_closed", .glo "_law_is_kind", .glo "_law_bent", .glo "_law_refused", .glo "law", .free "all", .free "bool", .free "int", .free "isinstance", .free "len", .free "list", .free "range", .free "str", .free "tuple", .free "zip", .int "MOST_BOUND" (10000), .glo "TURNS_WORDS", .int "ENDLESS" (10000000000000000000000000000000000000000000000000000000000000000000000000000000000000000000), .glo "InvalidKind", .exc "InvalidKind", .glo "CarriedError", .exc "CarriedError", .exm "InvalidKind" "CarriedError" true]
abbrev R0 : PySem.W.OpenRow := PySem.W.OpenLaw.row PySem.Challenge.rw_kindscarried_k32_closed_kinds
def ex (K : PySem.W.Frag) : Bool := He.tupB K "TURNS_WORDS" [.str "cell", .str "int", .str "not", .str "one", .str "rec", .str "row", .str "some"] && (PV.exCB K (He.ga K "InvalidKind") && (decide (PySem.W.kitOne K (.ref (He.ga K "InvalidKind")) (.ref (He.ga K "InvalidKind")) = some true)))
abbrev hkD : PySem.W.Hook := He.hookX 4 fa fn [] [] ex
def obD (s : PySem.W.SharedT) : He.AlX := He.obsX 4 fa fn [] [] ex (HandSHeadRun.getT s)
theorem obD_eq (s : PySem.W.SharedT) : obD s = hkD.obs s.abs := He.obsX_eq (HandSHeadRun.getT_eq s)
def loose : List PySem.Str := [("is_integer" : PySem.Str), ("is_tuple_of" : PySem.Str), ("is_kinds" : PySem.Str), ("is_pairs" : PySem.Str), ("has_form" : PySem.Str), ("is_rising" : PySem.Str), ("insides" : PySem.Str), ("binds" : PySem.Str), ("with_insides" : PySem.Str), ("is_kind_below" : PySem.Str), ("is_kind" : PySem.Str), ("put_below" : PySem.Str), ("opened" : PySem.Str), ("unfolded" : PySem.Str), ("raised" : PySem.Str), ("hidden_pairs" : PySem.Str), ("closed_kind" : PySem.Str), ("_law_spring" : PySem.Str), ("_law_drop" : PySem.Str), ("_law_kinds" : PySem.Str), ("_law_alike" : PySem.Str), ("_law_in" : PySem.Str), ("_law_with" : PySem.Str), ("_law_put" : PySem.Str), ("_law_shut" : PySem.Str), ("_law_some_kind" : PySem.Str), ("_law_up" : PySem.Str), ("_law_closed" : PySem.Str), ("_law_is_kind" : PySem.Str), ("_law_bent" : PySem.Str), ("_law_refused" : PySem.Str), ("MOST_BOUND" : PySem.Str), ("TURNS_WORDS" : PySem.Str), ("ENDLESS" : PySem.Str), ("InvalidKind" : PySem.Str), ("CarriedError" : PySem.Str)]
theorem run (w : World) : HandSHeadRun.RunEq R0 (PySem.W.view R0.prog [41]) hkD obD 5000 loose w := by
  intro os
  kernel_rfl
end K32
end

section
set_option maxRecDepth 100000
set_option maxHeartbeats 0
namespace K32
open PySem PySem.Spec PyProof.Rows L2 PV
section
variable {h : Heap} {K : PySem.W.Frag} {mg : Str → Option Value}
theorem def_is_integer (X : K.In h) (G : h.Ns mainGlobals mg) (c : He.SaysD fa fn K) : DefOk K mg bs gn xs xm T f_is_integer (defArgs (top 4)) (defBody (top 4)) (defScope (top 4)) := by
  obtain ⟨fd, fu⟩ := c.def_ 0 (d := d_is_integer) rfl
  refine ⟨sc_is_integer, ok_is_integer, _, fd, fu, He.glo_ok X G (c.fact 0 (f := .glo "is_integer") rfl), FunD.bindsN fu fun _ _ _ _ _ _ us hl => match us, hl with | [_], _ => rfl, fun q hq => ?_⟩
  exact absurd hq List.not_mem_nil
theorem def_is_tuple_of (X : K.In h) (G : h.Ns mainGlobals mg) (c : He.SaysD fa fn K) : DefOk K mg bs gn xs xm T f_is_tuple_of (defArgs (top 5)) (defBody (top 5)) (defScope (top 5)) := by
  obtain ⟨fd, fu⟩ := c.def_ 1 (d := d_is_tuple_of) rfl
  refine ⟨sc_is_tuple_of, ok_is_tuple_of, _, fd, fu, He.glo_ok X G (c.fact 1 (f := .glo "is_tuple_of") rfl), FunD.bindsN fu fun _ _ _ _ _ _ us hl => match us, hl with | [_, _], _ => rfl, fun q hq => ?_⟩
  exact absurd hq List.not_mem_nil
theorem def_is_kinds (X : K.In h) (G : h.Ns mainGlobals mg) (c : He.SaysD fa fn K) : DefOk K mg bs gn xs xm T f_is_kinds (defArgs (top 8)) (defBody (top 8)) (defScope (top 8)) := by
  obtain ⟨fd, fu⟩ := c.def_ 2 (d := d_is_kinds) rfl
  refine ⟨sc_is_kinds, ok_is_kinds, _, fd, fu, He.glo_ok X G (c.fact 2 (f := .glo "is_kinds") rfl), FunD.bindsN fu fun _ _ _ _ _ _ us hl => match us, hl with | [_], _ => rfl, fun q hq => ?_⟩
  exact absurd hq List.not_mem_nil
theorem def_is_pairs (X : K.In h) (G : h.Ns mainGlobals mg) (c : He.SaysD fa fn K) : DefOk K mg bs gn xs xm T f_is_pairs (defArgs (top 9)) (defBody (top 9)) (defScope (top 9)) := by
  obtain ⟨fd, fu⟩ := c.def_ 3 (d := d_is_pairs) rfl
  refine ⟨sc_is_pairs, ok_is_pairs, _, fd, fu, He.glo_ok X G (c.fact 3 (f := .glo "is_pairs") rfl), FunD.bindsN fu fun _ _ _ _ _ _ us hl => match us, hl with | [_], _ => rfl, fun q hq => ?_⟩
  exact absurd hq List.not_mem_nil
theorem def_has_form (X : K.In h) (G : h.Ns mainGlobals mg) (c : He.SaysD fa fn K) : DefOk K mg bs gn xs xm T f_has_form (defArgs (top 10)) (defBody (top 10)) (defScope (top 10)) := by
  obtain ⟨fd, fu⟩ := c.def_ 4 (d := d_has_form) rfl
  refine ⟨sc_has_form, ok_has_form, _, fd, fu, He.glo_ok X G (c.fact 4 (f := .glo "has_form") rfl), FunD.bindsN fu fun _ _ _ _ _ _ us hl => match us, hl with | [_], _ => rfl, fun q hq => ?_⟩
  exact absurd hq List.not_mem_nil
theorem def_is_rising (X : K.In h) (G : h.Ns mainGlobals mg) (c : He.SaysD fa fn K) : DefOk K mg bs gn xs xm T f_is_rising (defArgs (top 11)) (defBody (top 11)) (defScope (top 11)) := by
  obtain ⟨fd, fu⟩ := c.def_ 5 (d := d_is_rising) rfl
  refine ⟨sc_is_rising, ok_is_rising, _, fd, fu, He.glo_ok X G (c.fact 5 (f := .glo "is_rising") rfl), FunD.bindsN fu fun _ _ _ _ _ _ us hl => match us, hl with | [_], _ => rfl, fun q hq => ?_⟩
  exact absurd hq List.not_mem_nil
theorem def_insides (X : K.In h) (G : h.Ns mainGlobals mg) (c : He.SaysD fa fn K) : DefOk K mg bs gn xs xm T f_insides (defArgs (top 12)) (defBody (top 12)) (defScope (top 12)) := by
  obtain ⟨fd, fu⟩ := c.def_ 6 (d := d_insides) rfl
  refine ⟨sc_insides, ok_insides, _, fd, fu, He.glo_ok X G (c.fact 6 (f := .glo "insides") rfl), FunD.bindsN fu fun _ _ _ _ _ _ us hl => match us, hl with | [_], _ => rfl, fun q hq => ?_⟩
  exact absurd hq List.not_mem_nil
theorem def_binds (X : K.In h) (G : h.Ns mainGlobals mg) (c : He.SaysD fa fn K) : DefOk K mg bs gn xs xm T f_binds (defArgs (top 13)) (defBody (top 13)) (defScope (top 13)) := by
  obtain ⟨fd, fu⟩ := c.def_ 7 (d := d_binds) rfl
  refine ⟨sc_binds, ok_binds, _, fd, fu, He.glo_ok X G (c.fact 7 (f := .glo "binds") rfl), FunD.bindsN fu fun _ _ _ _ _ _ us hl => match us, hl with | [_], _ => rfl, fun q hq => ?_⟩
  exact absurd hq List.not_mem_nil
theorem def_with_insides (X : K.In h) (G : h.Ns mainGlobals mg) (c : He.SaysD fa fn K) : DefOk K mg bs gn xs xm T f_with_insides (defArgs (top 14)) (defBody (top 14)) (defScope (top 14)) := by
  obtain ⟨fd, fu⟩ := c.def_ 8 (d := d_with_insides) rfl
  refine ⟨sc_with_insides, ok_with_insides, _, fd, fu, He.glo_ok X G (c.fact 8 (f := .glo "with_insides") rfl), FunD.bindsN fu fun _ _ _ _ _ _ us hl => match us, hl with | [_, _], _ => rfl, fun q hq => ?_⟩
  exact absurd hq List.not_mem_nil
theorem def_is_kind_below (X : K.In h) (G : h.Ns mainGlobals mg) (c : He.SaysD fa fn K) : DefOk K mg bs gn xs xm T f_is_kind_below (defArgs (top 15)) (defBody (top 15)) (defScope (top 15)) := by
  obtain ⟨fd, fu⟩ := c.def_ 9 (d := d_is_kind_below) rfl
  refine ⟨sc_is_kind_below, ok_is_kind_below, _, fd, fu, He.glo_ok X G (c.fact 9 (f := .glo "is_kind_below") rfl), FunD.bindsN fu fun _ _ _ _ _ _ us hl => match us, hl with | [_, _, _, _], _ => rfl, fun q hq => ?_⟩
  exact absurd hq List.not_mem_nil
theorem def_is_kind (X : K.In h) (G : h.Ns mainGlobals mg) (c : He.SaysD fa fn K) : DefOk K mg bs gn xs xm T f_is_kind (defArgs (top 16)) (defBody (top 16)) (defScope (top 16)) := by
  obtain ⟨fd, fu⟩ := c.def_ 10 (d := d_is_kind) rfl
  refine ⟨sc_is_kind, ok_is_kind, _, fd, fu, He.glo_ok X G (c.fact 10 (f := .glo "is_kind") rfl), FunD.bindsN fu fun _ _ _ _ _ _ us hl => match us, hl with | [_, _, _], _ => rfl, fun q hq => ?_⟩
  exact absurd hq List.not_mem_nil
theorem def_put_below (X : K.In h) (G : h.Ns mainGlobals mg) (c : He.SaysD fa fn K) : DefOk K mg bs gn xs xm T f_put_below (defArgs (top 17)) (defBody (top 17)) (defScope (top 17)) := by
  obtain ⟨fd, fu⟩ := c.def_ 11 (d := d_put_below) rfl
  refine ⟨sc_put_below, ok_put_below, _, fd, fu, He.glo_ok X G (c.fact 11 (f := .glo "put_below") rfl), FunD.bindsN fu fun _ _ _ _ _ _ us hl => match us, hl with | [_, _, _], _ => rfl, fun q hq => ?_⟩
  exact absurd hq List.not_mem_nil
theorem def_opened (X : K.In h) (G : h.Ns mainGlobals mg) (c : He.SaysD fa fn K) : DefOk K mg bs gn xs xm T f_opened (defArgs (top 18)) (defBody (top 18)) (defScope (top 18)) := by
  obtain ⟨fd, fu⟩ := c.def_ 12 (d := d_opened) rfl
  refine ⟨sc_opened, ok_opened, _, fd, fu, He.glo_ok X G (c.fact 12 (f := .glo "opened") rfl), FunD.bindsN fu fun _ _ _ _ _ _ us hl => match us, hl with | [_, _], _ => rfl, fun q hq => ?_⟩
  exact absurd hq List.not_mem_nil
theorem def_unfolded (X : K.In h) (G : h.Ns mainGlobals mg) (c : He.SaysD fa fn K) : DefOk K mg bs gn xs xm T f_unfolded (defArgs (top 19)) (defBody (top 19)) (defScope (top 19)) := by
  obtain ⟨fd, fu⟩ := c.def_ 13 (d := d_unfolded) rfl
  refine ⟨sc_unfolded, ok_unfolded, _, fd, fu, He.glo_ok X G (c.fact 13 (f := .glo "unfolded") rfl), FunD.bindsN fu fun _ _ _ _ _ _ us hl => match us, hl with | [_], _ => rfl, fun q hq => ?_⟩
  exact absurd hq List.not_mem_nil
theorem def_raised (X : K.In h) (G : h.Ns mainGlobals mg) (c : He.SaysD fa fn K) : DefOk K mg bs gn xs xm T f_raised (defArgs (top 23)) (defBody (top 23)) (defScope (top 23)) := by
  obtain ⟨fd, fu⟩ := c.def_ 14 (d := d_raised) rfl
  refine ⟨sc_raised, ok_raised, _, fd, fu, He.glo_ok X G (c.fact 14 (f := .glo "raised") rfl), FunD.bindsN fu fun _ _ _ _ _ _ us hl => match us, hl with | [_, _], _ => rfl, fun q hq => ?_⟩
  exact absurd hq List.not_mem_nil
theorem def_hidden_pairs (X : K.In h) (G : h.Ns mainGlobals mg) (c : He.SaysD fa fn K) : DefOk K mg bs gn xs xm T f_hidden_pairs (defArgs (top 24)) (defBody (top 24)) (defScope (top 24)) := by
  obtain ⟨fd, fu⟩ := c.def_ 15 (d := d_hidden_pairs) rfl
  refine ⟨sc_hidden_pairs, ok_hidden_pairs, _, fd, fu, He.glo_ok X G (c.fact 15 (f := .glo "hidden_pairs") rfl), FunD.bindsN fu fun _ _ _ _ _ _ us hl => match us, hl with | [_], _ => rfl, fun q hq => ?_⟩
  exact absurd hq List.not_mem_nil
theorem def_closed_kind (X : K.In h) (G : h.Ns mainGlobals mg) (c : He.SaysD fa fn K) : DefOk K mg bs gn xs xm T f_closed_kind (defArgs (top 25)) (defBody (top 25)) (defScope (top 25)) := by
  obtain ⟨fd, fu⟩ := c.def_ 16 (d := d_closed_kind) rfl
  refine ⟨sc_closed_kind, ok_closed_kind, _, fd, fu, He.glo_ok X G (c.fact 16 (f := .glo "closed_kind") rfl), FunD.bindsN fu fun _ _ _ _ _ _ us hl => match us, hl with | [_], _ => rfl, fun q hq => ?_⟩
  have hq : q ∈ ([(0, ["kind"], [0])] : List (Nat × List Str × List Nat)) := hq
  simp only [List.mem_cons, List.not_mem_nil, or_false] at hq
  rcases hq with rfl
  · exact kw_mk fu rfl fun _ _ _ _ _ _ us ws h1 h2 => match us, ws, h1, h2 with | [], [_], _, _ => rfl
theorem def__law_spring (X : K.In h) (G : h.Ns mainGlobals mg) (c : He.SaysD fa fn K) : DefOk K mg bs gn xs xm T f__law_spring (defArgs (top 27)) (defBody (top 27)) (defScope (top 27)) := by
  obtain ⟨fd, fu⟩ := c.def_ 17 (d := d__law_spring) rfl
  refine ⟨sc__law_spring, ok__law_spring, _, fd, fu, He.glo_ok X G (c.fact 17 (f := .glo "_law_spring") rfl), FunD.bindsN fu fun _ _ _ _ _ _ us hl => match us, hl with | [_], _ => rfl, fun q hq => ?_⟩
  exact absurd hq List.not_mem_nil
theorem def__law_drop (X : K.In h) (G : h.Ns mainGlobals mg) (c : He.SaysD fa fn K) : DefOk K mg bs gn xs xm T f__law_drop (defArgs (top 28)) (defBody (top 28)) (defScope (top 28)) := by
  obtain ⟨fd, fu⟩ := c.def_ 18 (d := d__law_drop) rfl
  refine ⟨sc__law_drop, ok__law_drop, _, fd, fu, He.glo_ok X G (c.fact 18 (f := .glo "_law_drop") rfl), FunD.bindsN fu fun _ _ _ _ _ _ us hl => match us, hl with | [_, _], _ => rfl, fun q hq => ?_⟩
  exact absurd hq List.not_mem_nil
theorem def__law_kinds (X : K.In h) (G : h.Ns mainGlobals mg) (c : He.SaysD fa fn K) : DefOk K mg bs gn xs xm T f__law_kinds (defArgs (top 29)) (defBody (top 29)) (defScope (top 29)) := by
  obtain ⟨fd, fu⟩ := c.def_ 19 (d := d__law_kinds) rfl
  refine ⟨sc__law_kinds, ok__law_kinds, _, fd, fu, He.glo_ok X G (c.fact 19 (f := .glo "_law_kinds") rfl), FunD.bindsN fu fun _ _ _ _ _ _ us hl => match us, hl with | [_], _ => rfl, fun q hq => ?_⟩
  exact absurd hq List.not_mem_nil
theorem def__law_alike (X : K.In h) (G : h.Ns mainGlobals mg) (c : He.SaysD fa fn K) : DefOk K mg bs gn xs xm T f__law_alike (defArgs (top 30)) (defBody (top 30)) (defScope (top 30)) := by
  obtain ⟨fd, fu⟩ := c.def_ 20 (d := d__law_alike) rfl
  refine ⟨sc__law_alike, ok__law_alike, _, fd, fu, He.glo_ok X G (c.fact 20 (f := .glo "_law_alike") rfl), FunD.bindsN fu fun _ _ _ _ _ _ us hl => match us, hl with | [_, _], _ => rfl, fun q hq => ?_⟩
  exact absurd hq List.not_mem_nil
theorem def__law_in (X : K.In h) (G : h.Ns mainGlobals mg) (c : He.SaysD fa fn K) : DefOk K mg bs gn xs xm T f__law_in (defArgs (top 31)) (defBody (top 31)) (defScope (top 31)) := by
  obtain ⟨fd, fu⟩ := c.def_ 21 (d := d__law_in) rfl
  refine ⟨sc__law_in, ok__law_in, _, fd, fu, He.glo_ok X G (c.fact 21 (f := .glo "_law_in") rfl), FunD.bindsN fu fun _ _ _ _ _ _ us hl => match us, hl with | [_], _ => rfl, fun q hq => ?_⟩
  exact absurd hq List.not_mem_nil
theorem def__law_with (X : K.In h) (G : h.Ns mainGlobals mg) (c : He.SaysD fa fn K) : DefOk K mg bs gn xs xm T f__law_with (defArgs (top 32)) (defBody (top 32)) (defScope (top 32)) := by
  obtain ⟨fd, fu⟩ := c.def_ 22 (d := d__law_with) rfl
  refine ⟨sc__law_with, ok__law_with, _, fd, fu, He.glo_ok X G (c.fact 22 (f := .glo "_law_with") rfl), FunD.bindsN fu fun _ _ _ _ _ _ us hl => match us, hl with | [_, _], _ => rfl, fun q hq => ?_⟩
  exact absurd hq List.not_mem_nil
theorem def__law_put (X : K.In h) (G : h.Ns mainGlobals mg) (c : He.SaysD fa fn K) : DefOk K mg bs gn xs xm T f__law_put (defArgs (top 33)) (defBody (top 33)) (defScope (top 33)) := by
  obtain ⟨fd, fu⟩ := c.def_ 23 (d := d__law_put) rfl
  refine ⟨sc__law_put, ok__law_put, _, fd, fu, He.glo_ok X G (c.fact 23 (f := .glo "_law_put") rfl), FunD.bindsN fu fun _ _ _ _ _ _ us hl => match us, hl with | [_, _, _], _ => rfl, fun q hq => ?_⟩
  exact absurd hq List.not_mem_nil
theorem def__law_shut (X : K.In h) (G : h.Ns mainGlobals mg) (c : He.SaysD fa fn K) : DefOk K mg bs gn xs xm T f__law_shut (defArgs (top 34)) (defBody (top 34)) (defScope (top 34)) := by
  obtain ⟨fd, fu⟩ := c.def_ 24 (d := d__law_shut) rfl
  refine ⟨sc__law_shut, ok__law_shut, _, fd, fu, He.glo_ok X G (c.fact 24 (f := .glo "_law_shut") rfl), FunD.bindsN fu fun _ _ _ _ _ _ us hl => match us, hl with | [_, _, _], _ => rfl, fun q hq => ?_⟩
  exact absurd hq List.not_mem_nil
theorem def__law_some_kind (X : K.In h) (G : h.Ns mainGlobals mg) (c : He.SaysD fa fn K) : DefOk K mg bs gn xs xm T f__law_some_kind (defArgs (top 35)) (defBody (top 35)) (defScope (top 35)) := by
  obtain ⟨fd, fu⟩ := c.def_ 25 (d := d__law_some_kind) rfl
  refine ⟨sc__law_some_kind, ok__law_some_kind, _, fd, fu, He.glo_ok X G (c.fact 25 (f := .glo "_law_some_kind") rfl), FunD.bindsN fu fun _ _ _ _ _ _ us hl => match us, hl with | [_, _, _], _ => rfl, fun q hq => ?_⟩
  exact absurd hq List.not_mem_nil
theorem def__law_up (X : K.In h) (G : h.Ns mainGlobals mg) (c : He.SaysD fa fn K) : DefOk K mg bs gn xs xm T f__law_up (defArgs (top 36)) (defBody (top 36)) (defScope (top 36)) := by
  obtain ⟨fd, fu⟩ := c.def_ 26 (d := d__law_up) rfl
  refine ⟨sc__law_up, ok__law_up, _, fd, fu, He.glo_ok X G (c.fact 26 (f := .glo "_law_up") rfl), FunD.bindsN fu fun _ _ _ _ _ _ us hl => match us, hl with | [_, _], _ => rfl, fun q hq => ?_⟩
  exact absurd hq List.not_mem_nil
theorem def__law_closed (X : K.In h) (G : h.Ns mainGlobals mg) (c : He.SaysD fa fn K) : DefOk K mg bs gn xs xm T f__law_closed (defArgs (top 37)) (defBody (top 37)) (defScope (top 37)) := by
  obtain ⟨fd, fu⟩ := c.def_ 27 (d := d__law_closed) rfl
  refine ⟨sc__law_closed, ok__law_closed, _, fd, fu, He.glo_ok X G (c.fact 27 (f := .glo "_law_closed") rfl), FunD.bindsN fu fun _ _ _ _ _ _ us hl => match us, hl with | [_], _ => rfl, fun q hq => ?_⟩
  exact absurd hq List.not_mem_nil
theorem def__law_is_kind (X : K.In h) (G : h.Ns mainGlobals mg) (c : He.SaysD fa fn K) : DefOk K mg bs gn xs xm T f__law_is_kind (defArgs (top 38)) (defBody (top 38)) (defScope (top 38)) := by
  obtain ⟨fd, fu⟩ := c.def_ 28 (d := d__law_is_kind) rfl
  refine ⟨sc__law_is_kind, ok__law_is_kind, _, fd, fu, He.glo_ok X G (c.fact 28 (f := .glo "_law_is_kind") rfl), FunD.bindsN fu fun _ _ _ _ _ _ us hl => match us, hl with | [_, _], _ => rfl, fun q hq => ?_⟩
  exact absurd hq List.not_mem_nil
theorem def__law_bent (X : K.In h) (G : h.Ns mainGlobals mg) (c : He.SaysD fa fn K) : DefOk K mg bs gn xs xm T f__law_bent (defArgs (top 39)) (defBody (top 39)) (defScope (top 39)) := by
  obtain ⟨fd, fu⟩ := c.def_ 29 (d := d__law_bent) rfl
  refine ⟨sc__law_bent, ok__law_bent, _, fd, fu, He.glo_ok X G (c.fact 29 (f := .glo "_law_bent") rfl), FunD.bindsN fu fun _ _ _ _ _ _ us hl => match us, hl with | [_, _], _ => rfl, fun q hq => ?_⟩
  exact absurd hq List.not_mem_nil
theorem def__law_refused (X : K.In h) (G : h.Ns mainGlobals mg) (c : He.SaysD fa fn K) : DefOk K mg bs gn xs xm T f__law_refused (defArgs (top 40)) (defBody (top 40)) (defScope (top 40)) := by
  obtain ⟨fd, fu⟩ := c.def_ 30 (d := d__law_refused) rfl
  refine ⟨sc__law_refused, ok__law_refused, _, fd, fu, He.glo_ok X G (c.fact 30 (f := .glo "_law_refused") rfl), FunD.bindsN fu fun _ _ _ _ _ _ us hl => match us, hl with | [_], _ => rfl, fun q hq => ?_⟩
  exact absurd hq List.not_mem_nil
theorem def_law (X : K.In h) (G : h.Ns mainGlobals mg) (c : He.SaysD fa fn K) : DefOk K mg bs gn xs xm T f_law (defArgs (top 41)) (defBody (top 41)) (defScope (top 41)) := by
  obtain ⟨fd, fu⟩ := c.def_ 31 (d := d_law) rfl
  refine ⟨sc_law, ok_law, _, fd, fu, He.glo_ok X G (c.fact 31 (f := .glo "law") rfl), FunD.bindsN fu fun _ _ _ _ _ _ us hl => match us, hl with | [_], _ => rfl, fun q hq => ?_⟩
  exact absurd hq List.not_mem_nil
theorem tab (X : K.In h) (G : h.Ns mainGlobals mg) (c : He.SaysD fa fn K) : ∀ (f : Nat) (fn : Fn), T[f]? = some fn → ∃ params body scope, DefOk K mg bs gn xs xm T fn params body scope
  | 0, _, e => by obtain rfl := Option.some.inj e; exact ⟨_, _, _, def_is_integer X G c⟩
  | 1, _, e => by obtain rfl := Option.some.inj e; exact ⟨_, _, _, def_is_tuple_of X G c⟩
  | 2, _, e => by obtain rfl := Option.some.inj e; exact ⟨_, _, _, def_is_kinds X G c⟩
  | 3, _, e => by obtain rfl := Option.some.inj e; exact ⟨_, _, _, def_is_pairs X G c⟩
  | 4, _, e => by obtain rfl := Option.some.inj e; exact ⟨_, _, _, def_has_form X G c⟩
  | 5, _, e => by obtain rfl := Option.some.inj e; exact ⟨_, _, _, def_is_rising X G c⟩
  | 6, _, e => by obtain rfl := Option.some.inj e; exact ⟨_, _, _, def_insides X G c⟩
  | 7, _, e => by obtain rfl := Option.some.inj e; exact ⟨_, _, _, def_binds X G c⟩
  | 8, _, e => by obtain rfl := Option.some.inj e; exact ⟨_, _, _, def_with_insides X G c⟩
  | 9, _, e => by obtain rfl := Option.some.inj e; exact ⟨_, _, _, def_is_kind_below X G c⟩
  | 10, _, e => by obtain rfl := Option.some.inj e; exact ⟨_, _, _, def_is_kind X G c⟩
  | 11, _, e => by obtain rfl := Option.some.inj e; exact ⟨_, _, _, def_put_below X G c⟩
  | 12, _, e => by obtain rfl := Option.some.inj e; exact ⟨_, _, _, def_opened X G c⟩
  | 13, _, e => by obtain rfl := Option.some.inj e; exact ⟨_, _, _, def_unfolded X G c⟩
  | 14, _, e => by obtain rfl := Option.some.inj e; exact ⟨_, _, _, def_raised X G c⟩
  | 15, _, e => by obtain rfl := Option.some.inj e; exact ⟨_, _, _, def_hidden_pairs X G c⟩
  | 16, _, e => by obtain rfl := Option.some.inj e; exact ⟨_, _, _, def_closed_kind X G c⟩
  | 17, _, e => by obtain rfl := Option.some.inj e; exact ⟨_, _, _, def__law_spring X G c⟩
  | 18, _, e => by obtain rfl := Option.some.inj e; exact ⟨_, _, _, def__law_drop X G c⟩
  | 19, _, e => by obtain rfl := Option.some.inj e; exact ⟨_, _, _, def__law_kinds X G c⟩
  | 20, _, e => by obtain rfl := Option.some.inj e; exact ⟨_, _, _, def__law_alike X G c⟩
  | 21, _, e => by obtain rfl := Option.some.inj e; exact ⟨_, _, _, def__law_in X G c⟩
  | 22, _, e => by obtain rfl := Option.some.inj e; exact ⟨_, _, _, def__law_with X G c⟩
  | 23, _, e => by obtain rfl := Option.some.inj e; exact ⟨_, _, _, def__law_put X G c⟩
  | 24, _, e => by obtain rfl := Option.some.inj e; exact ⟨_, _, _, def__law_shut X G c⟩
  | 25, _, e => by obtain rfl := Option.some.inj e; exact ⟨_, _, _, def__law_some_kind X G c⟩
  | 26, _, e => by obtain rfl := Option.some.inj e; exact ⟨_, _, _, def__law_up X G c⟩
  | 27, _, e => by obtain rfl := Option.some.inj e; exact ⟨_, _, _, def__law_closed X G c⟩
  | 28, _, e => by obtain rfl := Option.some.inj e; exact ⟨_, _, _, def__law_is_kind X G c⟩
  | 29, _, e => by obtain rfl := Option.some.inj e; exact ⟨_, _, _, def__law_bent X G c⟩
  | 30, _, e => by obtain rfl := Option.some.inj e; exact ⟨_, _, _, def__law_refused X G c⟩
  | 31, _, e => by obtain rfl := Option.some.inj e; exact ⟨_, _, _, def_law X G c⟩
  | _ + 32, _, e => by cases e
theorem free (X : K.In h) (G : h.Ns mainGlobals mg) (c : He.SaysD fa fn K) : ∀ x ∈ bs, mg x = none := by
  intro x hx
  simp only [bs, List.mem_cons, List.not_mem_nil, or_false] at hx
  rcases hx with rfl | rfl | rfl | rfl | rfl | rfl | rfl | rfl | rfl | rfl
  · exact He.free_ok X G (c.fact 32 (f := .free "all") rfl)
  · exact He.free_ok X G (c.fact 33 (f := .free "bool") rfl)
  · exact He.free_ok X G (c.fact 34 (f := .free "int") rfl)
  · exact He.free_ok X G (c.fact 35 (f := .free "isinstance") rfl)
  · exact He.free_ok X G (c.fact 36 (f := .free "len") rfl)
  · exact He.free_ok X G (c.fact 37 (f := .free "list") rfl)
  · exact He.free_ok X G (c.fact 38 (f := .free "range") rfl)
  · exact He.free_ok X G (c.fact 39 (f := .free "str") rfl)
  · exact He.free_ok X G (c.fact 40 (f := .free "tuple") rfl)
  · exact He.free_ok X G (c.fact 41 (f := .free "zip") rfl)
theorem tupK {x : Str} {vs : List He.Dv} (e : He.tupB K x vs = true) : ∃ (o : Obj) (its : Array Value) (n : Nat), K.lookup (He.ga K x) = some o ∧ o.cls = .type "tuple" ∧ o.data = .seq its n ∧ its.size ≤ sizeLine ∧ Vals (vs.map (He.Dv.v K)) its.toList := by
  rcases He.tupB_ok e (fun _ => none) with (q | ⟨_, q⟩) | q
  · cases q
  · cases q
  · exact q
theorem exs (cx : ex K = true) : (He.tupB K "TURNS_WORDS" [.str "cell", .str "int", .str "not", .str "one", .str "rec", .str "row", .str "some"]) = true ∧ (PV.exCB K (He.ga K "InvalidKind")) = true ∧ (decide (PySem.W.kitOne K (.ref (He.ga K "InvalidKind")) (.ref (He.ga K "InvalidKind")) = some true)) = true := by
  simpa only [ex, Bool.and_eq_true] using cx
theorem glob (X : K.In h) (G0 : h.Ns mainGlobals mg) (c : He.SaysD fa fn K) (cx : ex K = true) : ∀ (i : Nat) (x : Str) (d : D), gn[i]? = some x → G[i]? = some d → ∃ v u, mg x = some u ∧ L2.RelV v u ∧ ∀ J H, RD K J H d v
  | 0, x, d, e1, e2 => by
    cases Option.some.inj e1
    cases Option.some.inj e2
    obtain ⟨t, e⟩ := He.int_ok X G0 (c.fact 42 (f := .int "MOST_BOUND" (10000)) rfl)
    exact ⟨.int (10000), _, e, ⟨_, rfl⟩, fun J H => .int _⟩
  | 1, x, d, e1, e2 => by
    cases Option.some.inj e1
    cases Option.some.inj e2
    have e := He.glo_ok X G0 (c.fact 43 (f := .glo "TURNS_WORDS") rfl)
    have t := tupK (exs cx).1
    exact ⟨.ref _, _, e, rfl, fun J H => .ktup t (by rw [List.length_map, sizeLine_eq]; decide) (.cons (.str _) (.cons (.str _) (.cons (.str _) (.cons (.str _) (.cons (.str _) (.cons (.str _) (.cons (.str _) .nil)))))))⟩
  | 2, x, d, e1, e2 => by
    cases Option.some.inj e1
    cases Option.some.inj e2
    obtain ⟨t, e⟩ := He.int_ok X G0 (c.fact 44 (f := .int "ENDLESS" (10000000000000000000000000000000000000000000000000000000000000000000000000000000000000000000)) rfl)
    exact ⟨.int (10000000000000000000000000000000000000000000000000000000000000000000000000000000000000000000), _, e, ⟨_, rfl⟩, fun J H => .int _⟩
  | n + 3, x, d, e1, e2 => by first | cases e2 | (simp at e2)
theorem excs (X : K.In h) (G0 : h.Ns mainGlobals mg) (c : He.SaysD fa fn K) : ∀ x ∈ xs, ∃ C, mg x = some (.ref C) ∧ PySem.W.excIn K C He.veBase "ValueError.__new__" = true ∧ PySem.W.keepIn K (.ref C) = true ∧ PySem.W.subIn K (.ref C) (.type "BaseException") = some true ∧ PySem.W.typeIn K (.ref C) = some (.type "type") := by
  intro x hx
  simp only [xs, List.mem_cons, List.not_mem_nil, or_false] at hx
  rcases hx with rfl | rfl
  · exact ⟨_, He.glo_ok X G0 (c.fact 45 (f := .glo "InvalidKind") rfl), He.exc_ok (c.fact 46 (f := .exc "InvalidKind") rfl)⟩
  · exact ⟨_, He.glo_ok X G0 (c.fact 47 (f := .glo "CarriedError") rfl), He.exc_ok (c.fact 48 (f := .exc "CarriedError") rfl)⟩
theorem exm1 (X : K.In h) (G0 : h.Ns mainGlobals mg) (c : He.SaysD fa fn K) : ∀ x y b, (x, y, b) ∈ xm.m → ∃ C C', mg x = some (.ref C) ∧ mg y = some (.ref C') ∧ PySem.W.exmOne K (.ref C) (.ref C') = some b := by
  intro x y b hx
  simp only [xm, List.mem_cons, List.not_mem_nil, or_false, Prod.mk.injEq] at hx
  rcases hx with ⟨rfl, rfl, rfl⟩
  · exact ⟨_, _, He.glo_ok X G0 (c.fact 45 (f := .glo "InvalidKind") rfl), He.glo_ok X G0 (c.fact 47 (f := .glo "CarriedError") rfl), He.exm_ok (c.fact 49 (f := .exm "InvalidKind" "CarriedError" true) rfl)⟩
theorem exm2 (X : K.In h) (G0 : h.Ns mainGlobals mg) (c : He.SaysD fa fn K) : ∀ x y b, (x, y, b) ∈ xm.m → mg x = some (.ref (He.ga K x)) := by
  intro x y b hx
  simp only [xm, List.mem_cons, List.not_mem_nil, or_false, Prod.mk.injEq] at hx
  rcases hx with ⟨rfl, rfl, rfl⟩
  · exact He.glo_ok X G0 (c.fact 45 (f := .glo "InvalidKind") rfl)
theorem exm3 (X : K.In h) (G0 : h.Ns mainGlobals mg) (c : He.SaysD fa fn K) (cx : ex K = true) : ∀ x y b, (x, y, b) ∈ xm.i → ∃ C', mg y = some (.ref C') ∧ ExcC K (He.ga K x) ∧ PySem.W.kitOne K (.ref (He.ga K x)) (.ref C') = some b := by
  intro x y b hx
  simp only [xm, List.mem_cons, List.not_mem_nil, or_false, Prod.mk.injEq] at hx
  rcases hx with ⟨rfl, rfl, rfl⟩
  · exact ⟨_, He.glo_ok X G0 (c.fact 45 (f := .glo "InvalidKind") rfl), PV.exCB_ok (exs cx).2.1, of_decide_eq_true (exs cx).2.2⟩
theorem exm4 (cx : ex K = true) : ∀ x g, (x, g) ∈ xm.f → XfC K (He.ga K x) ∧ PySem.W.findIn K (.ref (He.ga K x)) g = some none := by
  intro x g hx
  cases hx
theorem exms (X : K.In h) (G0 : h.Ns mainGlobals mg) (c : He.SaysD fa fn K) (cx : ex K = true) : XF K mg xm := ⟨exm1 X G0 c, exm2 X G0 c, exm3 X G0 c cx, exm4 cx⟩
theorem facts {P : Program} {w : World} {a : Addr} (X : K.In h) (G0 : h.Ns mainGlobals mg) (ha : mg ("law" : Str) = some (.ref a)) (c : He.SaysD fa fn K) (cx : ex K = true) :
    ∃ fd : FuncData, (∀ (s : Shared) (v : Value), BindsTo s fd ⟨[v], []⟩ [("script", v)]) ∧ ∀ base : Heap, K.In base → base.Ns mainGlobals mg → FnG P w K mg base 211 a fd ["script"] (spF K mg (callN T G 211) 31 1) := by
  obtain ⟨fd, fu⟩ := c.def_ 31 (d := d_law) rfl
  have e := ha.symm.trans (He.glo_ok X G0 (c.fact 31 (f := .glo "law") rfl))
  cases e
  have b := FunD.bindsA (ps := ["script"]) fu fun _ _ _ _ _ _ us hl => match us, hl with | [_], _ => rfl
  exact ⟨fd, fun s v => b s [v] rfl, fun base _ _ => def_step (fn := f_law) (free X G0 c) (glob X G0 c cx) (excs X G0 c) (exms X G0 c cx) (tab_ok (tab X G0 c) (free X G0 c) (glob X G0 c cx) (excs X G0 c) (exms X G0 c cx) 210) rfl sc_law ok_law fu⟩
end
end K32
open PyProof.Rows PySem PySem.W PySem.Calls
theorem PySem.Challenge.cw_kindscarried_k32_closed_kinds_holds : PySem.Challenge.rw_kindscarried_k32_closed_kinds.Holds := by
  w_on; o_law
  refine HandSHeadRun.head_any (r := OpenLaw.row PySem.Challenge.rw_kindscarried_k32_closed_kinds) (q := view (OpenLaw.row PySem.Challenge.rw_kindscarried_k32_closed_kinds).prog [41]) (H := K32.hkD) (ob := K32.obD) (M := 5000) (loose := K32.loose) (d := HandSHeadRun.topDef (OpenLaw.row PySem.Challenge.rw_kindscarried_k32_closed_kinds).prog 41) (kwd := []) K32.obD_eq
    (by kernel_rfl) (fun s => by kernel_rfl) K32.run (by kernel_rfl) (by kernel_rfl) (by kernel_rfl) (by rfl) (by first | assumption | decide +kernel) (by decide +kernel) ⟨rfl, rfl, rfl, rfl, rfl, by decide +kernel⟩ ?hw ?hc
  case hw => w_witness2
  case hc =>
    refine PV.walk_g (l := PySem.Challenge.rw_kindscarried_k32_closed_kinds) (n := 63) (k := 211) (x := "script") rfl (by decide) (by kernel_rfl) ⟨rfl, by decide, by decide⟩ ?F
    intro w mg fa h Y G hmg0
    obtain ⟨K, KX, c⟩ := Y
    have hmg1 : mg ("law" : PySem.Str) = some (.ref fa) := by
      have e : (HandSHeadRun.topDef (OpenLaw.row PySem.Challenge.rw_kindscarried_k32_closed_kinds).prog 41).name = ("law" : PySem.Str) := by kernel_rfl
      rw [← e]
      exact hmg0
    obtain ⟨fd, hb, hF⟩ := K32.facts (P := (PySem.Challenge.rw_kindscarried_k32_closed_kinds).prog) (w := w) KX G hmg1 c.t.d c.more
    exact ⟨K, fd, _, KX, hb, fun H a ns hl hO hS => PV.law_sp (fn := K32.f_law) rfl rfl (fun ns hn => K32.law_ev (m := 0) ns hn) (by decide) H a ns hl hO hS, hF⟩
end
