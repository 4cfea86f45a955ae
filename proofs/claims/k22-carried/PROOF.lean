import PyProof.Rows.All
import HandS.ForMost
import PyProof.ReprRoads
import HandS.SetFor
import HandS.Strs
import HandS.TupMul
import HandS.IsInst
import HandS.Zip
import HandS.Conv
import HandS.TupAny
import HandS.Deep
import HandS.ExcOwn
import HandS.TryOnly
import HandS.WordsExc
import HandS.Style
import HandS.Wide
import HandS.HeadHook1
import HandS.Flow
import HandS.MapObj
import KE.KDictZip
import KE.GoesMore
import PyProof.EnumMake
import PyProof.TupleOfGen
import KE.KIndexOf
import HandS.Small
import PyProof.ExcBaseAll.ValueError
import HandS.Defaults
import HandS.Ends
import HandS.HeadEnd
import PySem.Challenge.RW_kindscarried_k22_kinds_carried
import KE.KStateDown
import HandS.Words
import HandS.Head0
import HandS.Head1
import HandS.Head2
import HandS.HeadHook2
import HandS.HeadHook3
import HandS.HeadHook4
set_option Elab.async false
set_option linter.all false
section
/-! PvA: a small language of Python's pure part (E, S), read off the text, and its evaluator over plain data D and a list of mutable objects. -/
namespace PV
open PySem L2

/-- data: none, truths, ints, texts, tuples, lists that are never changed, mutable objects by number -/
inductive D where
  | non | bl (b : Bool) | int (i : Int) | str (x : Str)
  | tup (xs : List D) | lst (xs : List D) | ref (i : Nat)
  /-- a list that is read and never written: the script -/
  | fz (xs : List D)
  /-- a written tuple whose object is known -/
  | ftup (xs : List D)
  deriving Inhabited
/-- what a mutable object holds -/
inductive O where
  | lst (xs : List D) | dct (kvs : List (Key × D))
  deriving Inhabited
abbrev Hh := List O
structure Xc where
  cls : Str
  fld : D
inductive R (α : Type) where
  | bad | ok (a : α) (h : Hh) | err (x : Xc) (h : Hh)
def R.bind {α β : Type} (r : R α) (f : α → Hh → R β) : R β := match r with
  | .bad => .bad
  | .ok a h => f a h
  | .err x h => .err x h
@[simp] theorem R.bind_ok {α β : Type} (a : α) (h : Hh) (f : α → Hh → R β) : (R.ok a h).bind f = f a h := rfl
@[simp] theorem R.bind_bad {α β : Type} (f : α → Hh → R β) : (R.bad : R α).bind f = .bad := rfl
@[simp] theorem R.bind_err {α β : Type} (x : Xc) (h : Hh) (f : α → Hh → R β) : (R.err x h : R α).bind f = .err x h := rfl
theorem R.bind_assoc {α β γ : Type} (r : R α) (f : α → Hh → R β) (g : β → Hh → R γ) : (r.bind f).bind g = r.bind fun a h => (f a h).bind g := by cases r <;> rfl
def R.opt {α : Type} (o : Option α) (h : Hh) : R α := match o with
  | some a => .ok a h
  | none => .bad
@[simp] theorem R.opt_some {α : Type} (a : α) (h : Hh) : R.opt (some a) h = .ok a h := rfl
@[simp] theorem R.opt_none {α : Type} (h : Hh) : R.opt (none : Option α) h = .bad := rfl

/-! ### data -/
mutual
def D.eqv : D → D → Bool
  | .non, .non => true
  | .bl a, .bl b => a == b
  | .bl a, .int j => (if a then 1 else 0) == j
  | .int i, .bl b => i == (if b then 1 else 0)
  | .int i, .int j => i == j
  | .str x, .str y => decide (x = y)
  | .lst xs, .lst ys => D.eqvs xs ys
  | .tup xs, .tup ys => D.eqvs xs ys
  | _, _ => false
def D.eqvs : List D → List D → Bool
  | [], [] => true
  | x :: xs, y :: ys => D.eqv x y && D.eqvs xs ys
  | _, _ => false
end
mutual
/-- data that == and in are told of: no mutable object in it, plain signs -/
def D.lay : D → Bool
  | .non => true
  | .bl _ => true
  | .int _ => true
  | .str x => PyData.strOk x
  | .tup xs => D.lays xs
  | .lst xs => D.lays xs
  | .ref _ => false
  | .fz _ => false
  | .ftup _ => false
def D.lays : List D → Bool
  | [] => true
  | x :: xs => D.lay x && D.lays xs
end
mutual
def D.dep : D → Nat
  | .tup xs => D.deps xs + 1
  | .lst xs => D.deps xs + 1
  | _ => 0
def D.deps : List D → Nat
  | [] => 0
  | x :: xs => max (D.dep x) (D.deps xs)
end
def D.shp (d : D) : Bool := d.lay && decide (d.dep ≤ 64)
mutual
/-- the very same -/
def D.same : D → D → Bool
  | .non, .non => true
  | .bl a, .bl b => a == b
  | .int i, .int j => i == j
  | .str x, .str y => decide (x = y)
  | .lst xs, .lst ys => D.sames xs ys
  | .tup xs, .tup ys => D.sames xs ys
  | .ref i, .ref j => i == j
  | .fz xs, .fz ys => D.sames xs ys
  | _, _ => false
def D.sames : List D → List D → Bool
  | [], [] => true
  | x :: xs, y :: ys => D.same x y && D.sames xs ys
  | _, _ => false
end
mutual
/-- no object from n on in it -/
def D.rlt (n : Nat) : D → Bool
  | .ref i => decide (i < n)
  | .tup xs => D.rlts n xs
  | .lst xs => D.rlts n xs
  | .fz xs => D.rlts n xs
  | .ftup xs => D.rlts n xs
  | _ => true
def D.rlts (n : Nat) : List D → Bool
  | [] => true
  | x :: xs => D.rlt n x && D.rlts n xs
end
def O.rlt (n : Nat) : O → Bool
  | .lst xs => D.rlts n xs
  | .dct kvs => kvs.all fun p => p.2.rlt n
def Hh.rlt (h : Hh) (n : Nat) : Bool := h.all (O.rlt n)

mutual
/-- data as the library's data -/
def D.py : D → PyData
  | .non => .none
  | .bl b => .bool b
  | .int i => .int i
  | .str x => .str x
  | .tup xs => .tuple (D.pys xs)
  | .lst xs => .list (D.pys xs)
  | .ref _ => .none
  | .fz _ => .none
  | .ftup _ => .none
def D.pys : List D → List PyData
  | [] => []
  | x :: xs => D.py x :: D.pys xs
end
/-- a mutable list, seen as it stands -/
def D.res (h : Hh) : D → D
  | .ref i => match h[i]? with
    | some (.lst xs) => .lst xs
    | _ => .ref i
  | .fz xs => .lst xs
  | d => d
/-- a list that + and * take -/
def D.own (h : Hh) : D → Option (List D)
  | .lst xs => some xs
  | .ref i => match h[i]? with
    | some (.lst xs) => some xs
    | _ => none
  | _ => none
def D.seq (h : Hh) : D → Option (List D)
  | .tup xs => some xs
  | .lst xs => some xs
  | .fz xs => some xs
  | .ftup xs => some xs
  | .ref i => match h[i]? with
    | some (.lst xs) => some xs
    | _ => none
  | _ => none
def D.key : D → Option Key
  | .int i => some (.inl i)
  | .str x => some (.inr x)
  | _ => none
def D.tru (h : Hh) : D → Option Bool
  | .non => some false
  | .bl b => some b
  | .int i => some (i != 0)
  | .str x => if x.length ≤ sizeLine then some ((x.length : Int) != 0) else none
  | .tup xs => some (!xs.isEmpty)
  | .lst xs => some (!xs.isEmpty)
  | .fz xs => some (!xs.isEmpty)
  | .ftup _ => none
  | .ref i => match h[i]? with
    | some (.lst xs) => some (!xs.isEmpty)
    | some (.dct kvs) => some (!kvs.isEmpty)
    | none => none
def D.isNon : D → Bool
  | .non => true
  | _ => false
def D.eqBl (b : Bool) : D → Bool
  | .bl a => a == b
  | _ => false
def D.isInt : D → Option Int
  | .int i => some i
  | _ => none
def D.isBl : D → Option Bool
  | .bl b => some b
  | _ => none

/-! sorted -/
def insI (x : Int) : (List Int) → (List Int)
  | [] => [x]
  | y :: r => if x ≤ y then x :: y :: r else y :: insI x r
def srtI (l : List Int) : List Int := l.foldr insI []
def insS (x : Str) : List Str → List Str
  | [] => [x]
  | y :: r => if PySem.Spec.ltCps y.cps.toList x.cps.toList then y :: insS x r else x :: y :: r
def srtS (l : List Str) : List Str := l.foldr insS []
/-- .. of a set -/
def insD (x : Int) : List Int → List Int
  | [] => [x]
  | y :: r => if x < y then x :: y :: r else if x = y then y :: r else y :: insD x r
def srtD (l : List Int) : List Int := l.foldr insD []

inductive BOp where | add | sub | mul | fdiv | mod | pow
inductive COp where | eq | ne | lt | le | gt | ge | inn | nin | is | isn
inductive Ty where | int | str | tup | lst | bl | dct | non
inductive Bf where | len | int | abs | tuple | list | max2 | min2 | sum | all | any | sorted | repr
inductive Mt where | append | pop | popAt | index | count

def mulOk (i j : Int) : Bool := decide (i.natAbs.log2 + j.natAbs.log2 < 1000000) || decide (-(2 ^ 64) < i ∧ i < 2 ^ 64) || decide (-(2 ^ 64) < j ∧ j < 2 ^ 64)
def powOk (i j : Int) : Bool := decide (0 ≤ j) && decide (j ≤ 1000000) && decide (i.natAbs < 2 ^ 64)
def sizeOk (n : Nat) : Bool := decide (n ≤ 16777216)
def cutD (xs : List D) (lo hi : Option Int) : List D := (xs.drop (HT.sIx xs.length 0 lo)).take (HT.sIx xs.length xs.length hi - HT.sIx xs.length 0 lo)

def opBin (o : BOp) (h : Hh) (x y : D) : Option D := match o with
  | .add => match x, y with
    | .int i, .int j => some (.int (i + j))
    | .str a, .str b => if sizeOk (a.length + b.length) then some (.str (a ++ b)) else none
    | .tup xs, .tup ys => if sizeOk (xs.length + ys.length) then some (.tup (xs ++ ys)) else none
    | x, y => match x.own h, y.own h with
      | some xs, some ys => if sizeOk (xs.length + ys.length) then some (.lst (xs ++ ys)) else none
      | _, _ => none
  | .sub => match x, y with
    | .int i, .int j => some (.int (i - j))
    | _, _ => none
  | .mul => match x, y with
    | .int i, .int j => if mulOk i j then some (.int (i * j)) else none
    | .tup xs, .int j => if xs ≠ [] ∧ 2 ≤ j ∧ j ≤ 1000000 ∧ j.toNat * xs.length ≤ 1000000 then some (.tup (List.replicate j.toNat xs).flatten) else none
    | x, .int j => match x.own h with
      | some xs => if 0 ≤ j ∧ j ≤ 16777216 ∧ sizeOk (xs.length * j.toNat) then some (.lst (List.replicate j.toNat xs).flatten) else none
      | _ => none
    | _, _ => none
  | .fdiv => match x, y with
    | .int i, .int j => if 0 < j ∧ j.natAbs.log2 < 9000 then some (.int (i / j)) else none
    | _, _ => none
  | .mod => match x, y with
    | .int i, .int j => if 0 < j then some (.int (i % j)) else none
    | _, _ => none
  | .pow => match x, y with
    | .int i, .int j => if powOk i j then some (.int (i ^ j.toNat)) else none
    | _, _ => none
/-- x op= y of ints and texts -/
def augOp (o : BOp) (x y : D) : Option D := match o with
  | .add => match x, y with
    | .int i, .int j => some (.int (i + j))
    | .str a, .str b => if sizeOk (a.length + b.length) then some (.str (a ++ b)) else none
    | _, _ => none
  | .sub => match x, y with
    | .int i, .int j => some (.int (i - j))
    | _, _ => none
  | .mul => none
  | .fdiv => match x, y with
    | .int i, .int j => if 0 < j ∧ j < 1073741824 then some (.int (i / j)) else none
    | _, _ => none
  | .mod => match x, y with
    | .int i, .int j => if 0 < j then some (.int (i % j)) else none
    | _, _ => none
  | .pow => none
def opEq (h : Hh) (x y : D) : Option Bool := match x, y with
  | .str a, .str b => some (decide (a = b))
  | x, y => if (x.res h).shp && (y.res h).shp then some ((x.res h).eqv (y.res h)) else none
def valD (kvs : List (Key × D)) (k : Key) : Option D := (kvs.find? fun kv => decide (kv.1 = k)).map (·.2)
def putD (kvs : List (Key × D)) (k : Key) (v : D) : List (Key × D) :=
  if (kvs.any fun kv => decide (kv.1 = k)) = true
  then kvs.map (fun kv => if kv.1 = k then (kv.1, v) else kv) else kvs ++ [(k, v)]
def dropD (kvs : List (Key × D)) (k : Key) : List (Key × D) := kvs.filter fun kv => decide (kv.1 ≠ k)
def hasKey (k : Key) (kvs : List (Key × D)) : Bool := (valD kvs k).isSome
def opIn (h : Hh) (x y : D) : Option Bool := match y with
  | .ref i => match h[i]? with
    | some (.lst ys) => if x.shp && (D.lst ys).shp then some (ys.any fun y => y.eqv x) else none
    | some (.dct kvs) => match x.key with
      | some k => some (hasKey k kvs)
      | none => none
    | none => none
  | .lst ys => if x.shp && (D.lst ys).shp then some (ys.any fun y => y.eqv x) else none
  | .tup ys => if x.shp && (D.tup ys).shp then some (ys.any fun y => y.eqv x) else none
  | .ftup ys => if x.shp && (D.tup ys).shp then some (ys.any fun y => y.eqv x) else none
  | _ => none
def opCmp (o : COp) (h : Hh) (x y : D) : Option Bool := match o with
  | .eq => opEq h x y
  | .ne => (opEq h x y).map (!·)
  | .lt => match x, y with
    | .int i, .int j => some (decide (i < j))
    | _, _ => none
  | .le => match x, y with
    | .int i, .int j => some (decide (i ≤ j))
    | _, _ => none
  | .gt => match x, y with
    | .int i, .int j => some (decide (j < i))
    | _, _ => none
  | .ge => match x, y with
    | .int i, .int j => some (decide (j ≤ i))
    | _, _ => none
  | .inn => opIn h x y
  | .nin => (opIn h x y).map (!·)
  | .is => match y with
    | .non => some x.isNon
    | .bl b => some (x.eqBl b)
    | _ => none
  | .isn => match y with
    | .non => some (!x.isNon)
    | .bl b => some (!x.eqBl b)
    | _ => none
def opIdx (h : Hh) (x y : D) : Option D := match x, y with
  | .tup xs, .int i => atI xs i
  | .lst xs, .int i => atI xs i
  | .fz xs, .int i => atI xs i
  | .ref r, y => match h[r]?, y with
    | some (.lst xs), .int i => atI xs i
    | some (.dct kvs), y => match y.key with
      | some k => valD kvs k
      | none => none
    | _, _ => none
  | _, _ => none
def opSlc (h : Hh) (x : D) (l u : Option Int) : Option D := match x with
  | .tup xs => some (.tup (cutD xs l u))
  | x => match x.res h with
    | .lst xs => some (.lst (cutD xs l u))
    | _ => none
def opIsi (t : Ty) (h : Hh) (x : D) : Bool := match t, x with
  | .int, .int _ => true
  | .int, .bl _ => true
  | .bl, .bl _ => true
  | .non, .non => true
  | .str, .str _ => true
  | .tup, .tup _ => true
  | .lst, .lst _ => true
  | .lst, .fz _ => true
  | .lst, .ref i => match h[i]? with | some (.lst _) => true | _ => false
  | .dct, .ref i => match h[i]? with | some (.dct _) => true | _ => false
  | _, _ => false
def D.ints : List D → Option (List Int)
  | [] => some []
  | .int i :: r => (D.ints r).map (i :: ·)
  | _ => none
def D.bls : List D → Option (List Bool)
  | [] => some []
  | .bl b :: r => (D.bls r).map (b :: ·)
  | _ => none
def D.strs : List D → Option (List Str)
  | [] => some []
  | .str i :: r => (D.strs r).map (i :: ·)
  | _ => none
def D.lstOf : D → Option (List D)
  | .lst xs => some xs
  | _ => none
def bfLen (h : Hh) : List D → Option D
  | [.tup ys] => some (.int ys.length)
  | [.lst ys] => some (.int ys.length)
  | [.fz ys] => some (.int ys.length)
  | [.ftup ys] => some (.int ys.length)
  | [.str x] => if x.length ≤ sizeLine then some (.int x.length) else none
  | [.ref i] => match h[i]? with
    | some (.lst ys) => some (.int ys.length)
    | some (.dct kvs) => some (.int kvs.length)
    | none => none
  | _ => none
def bfInt : List D → Option D
  | [.int i] => some (.int i)
  | [.bl b] => some (.int (if b then 1 else 0))
  | _ => none
def bfAbs : List D → Option D
  | [.int i] => some (.int (if i < 0 then -i else i))
  | _ => none
def bfTuple (h : Hh) : List D → Option D
  | [.ftup _] => none
  | [x] => (x.seq h).map D.tup
  | _ => none
def bfList (h : Hh) : List D → Option D
  | [x] => (x.seq h).map D.lst
  | _ => none
def bfMax : List D → Option D
  | [.int i, .int j] => some (.int (if j > i then j else i))
  | _ => none
def bfMin : List D → Option D
  | [.int i, .int j] => some (.int (if j < i then j else i))
  | _ => none
def bfSum (h : Hh) : List D → Option D
  | [x] => ((x.res h).lstOf.bind D.ints).map fun ns => .int ns.sum
  | _ => none
def bfAll (h : Hh) : List D → Option D
  | [x] => ((x.res h).lstOf.bind D.bls).map fun bs => .bl (bs.all id)
  | _ => none
def bfAny (h : Hh) : List D → Option D
  | [x] => ((x.res h).lstOf.bind D.bls).map fun bs => .bl (bs.any id)
  | _ => none
def srtItems (ds : List D) : Option D := match D.ints ds with
  | some ns => if ns.length < 64 then some (.lst ((srtI ns).map .int)) else none
  | none => match D.strs ds with
    | some ss => if ss.length < 64 then some (.lst ((srtS ss).map .str)) else none
    | none => none
def bfSorted (h : Hh) : List D → Option D
  | [.ftup _] => none
  | [x] => (x.seq h).bind srtItems
  | _ => none
/-- sorted(set(x)) -/
def ssetOp (h : Hh) (x : D) : Option D := ((x.res h).lstOf.bind D.ints).bind fun ns => if ns.length < 64 then some (.lst ((srtD ns).map .int)) else none
def reprD (d : D) : Option D := if d.shp && d.py.showable && decide (d.py.shown.length ≤ 16777216) then some (.str d.py.shown) else none
def bfRepr (h : Hh) : List D → Option D
  | [x] => reprD (x.res h)
  | _ => none
def opBf (f : Bf) (h : Hh) (xs : List D) : Option D := match f with
  | .len => bfLen h xs
  | .int => bfInt xs
  | .abs => bfAbs xs
  | .tuple => bfTuple h xs
  | .list => bfList h xs
  | .max2 => bfMax xs
  | .min2 => bfMin xs
  | .sum => bfSum h xs
  | .all => bfAll h xs
  | .any => bfAny h xs
  | .sorted => bfSorted h xs
  | .repr => bfRepr h xs

/-! ### the syntax -/
mutual
inductive E where
  | var (i : Nat) | con (d : D) | glo (i : Nat) | miss
  | tup (es : Es) | ftup (es : Es) | lst (es : Es) | new (e : E) | dic0
  | bin (o : BOp) (a b : E) | neg (a : E)
  | cmp (o : COp) (a b : E) | chain (o p : COp) (a b c : E)
  | and (a : E) (r : Es) | or (a : E) (r : Es) | not (a : E) | ite (c a b : E)
  | idx (a i : E) | slc (a lo hi : E)
  | call (f : Nat) (es : Es) | callK (f : Nat) (es kes : Es) (ks : List Nat)
  | bf (f : Bf) (es : Es) | isi (a : E) (t : Ty)
  | mth (m : Mt) (o : E) (es : Es)
  | lc (t : Tg) (it : I) (c e : E)
  | tenum (a : E)
  | sset (a : E)
inductive Es where
  | nil | cons (e : E) (es : Es)
inductive I where
  | ev (e : E) | rng (n : E) | rng2 (a b : E) | zip (a b : E) | enum (a : E)
inductive Tg where
  | v (i : Nat) | tu (is : List Nat)
end
def E.isMiss : E → Bool
  | .miss => true
  | _ => false
mutual
inductive S where
  | asg (i : Nat) (e : E) | asgLc (i : Nat) (e : E) | par (i j : Nat) (a b : E) | unp (is : List Nat) (e : E)
  | sto (o i e : E) | aug (i : Nat) (o : BOp) (e : E) | augL (i : Nat) (e : E)
  | exp (e : E) | ret (e : E) | retN
  | ite (c : E) (a b : Ss) | whl (c : E) (b : Ss) | for_ (t : Tg) (it : I) (b : Ss)
  | pass | brk | cnt | gc (ks : List Nat) (b : S)
  | asgC (i f : Nat) (es : Es) | expC (f : Nat) (es : Es) | retC (f : Nat) (es : Es)
  | raise_ (c : Str) | try_ (b : Ss) (c : Str) (yes no : List Str) (s : Ss)
inductive Ss where
  | nil | cons (s : S) (ss : Ss)
end
abbrev Env := List (Option D)
abbrev Fns := Nat → List D → Hh → R D

/-! ### the evaluator -/
/-- the items, and the object that they are read off -/
structure Src where
  items : List D
  off : Option Nat
def Src.good (s : Src) (h : Hh) : Bool := match s.off with
  | none => true
  | some i => match h[i]? with
    | some (.lst xs) => D.sames xs s.items
    | _ => false
def D.src (h : Hh) : D → Option Src
  | .tup xs => some ⟨xs, none⟩
  | .lst xs => some ⟨xs, none⟩
  | .fz xs => some ⟨xs, none⟩
  | .ftup xs => some ⟨xs, none⟩
  | .ref i => match h[i]? with
    | some (.lst xs) => some ⟨xs, some i⟩
    | _ => none
  | _ => none
def rngOk (a b : Int) : Bool := decide (-(2 ^ 62) ≤ a) && decide (a < 2 ^ 62) && decide (-(2 ^ 62) ≤ b) && decide (b < 2 ^ 62)
def rngD (a b : Int) : List D := (List.range (b - a).toNat).map fun k => .int (a + (k : Nat))
def zipD (xs ys : List D) : List D := List.zipWith (fun x y => .tup [x, y]) xs ys
def enumD (n : Nat) : List D → List D
  | [] => []
  | x :: xs => .tup [.int n, x] :: enumD (n + 1) xs
def tenumOp : D → Option D
  | .tup xs => if sizeOk xs.length then some (.tup (enumD 0 xs)) else none
  | _ => none
def zipSrc : D → D → Option Src
  | .tup xs, .tup ys => some ⟨zipD xs ys, none⟩
  | .lst xs, .lst ys => some ⟨zipD xs ys, none⟩
  | _, _ => none
def enumSrc : D → Option Src
  | .lst xs => some ⟨enumD 0 xs, none⟩
  | _ => none
def setAll : List Nat → List D → Env → Option Env
  | [], [], ρ => some ρ
  | i :: is, x :: xs, ρ => setAll is xs (ρ.set i (some x))
  | _, _, _ => none
def Tg.put (t : Tg) (x : D) (ρ : Env) : Option Env := match t with
  | .v i => some (ρ.set i (some x))
  | .tu is => match x with
    | .tup xs => setAll is xs ρ
    | _ => none
def Tg.slots : Tg → List Nat
  | .v i => [i]
  | .tu is => is
/-- the loop of a comprehension -/
def lcLoop (good : Hh → Bool) (turn : D → Hh → R (Option D)) : List D → List D → Hh → R D
  | [], acc, h => if good h then .ok (.lst acc) h else .bad
  | x :: xs, acc, h => if good h then (match turn x h with
    | .ok (some y) h' => lcLoop good turn xs (acc ++ [y]) h'
    | .ok none h' => lcLoop good turn xs acc h'
    | _ => .bad) else .bad
def newObj (d : D) (h : Hh) : R D := match d with
  | .lst xs => .ok (.ref h.length) (h ++ [.lst xs])
  | _ => .bad
def mtAppend (ys : List D) : List D → Option (D × List D)
  | [x] => if sizeOk (ys.length + 1) then some (.non, ys ++ [x]) else none
  | _ => none
def mtPop (ys : List D) : List D → Option (D × List D)
  | [] => (ys[ys.length - 1]?).map fun y => (y, ys.dropLast)
  | _ => none
def mtPopAt (ys : List D) : List D → Option (D × List D)
  | [.int k] => (ixN ys.length k).bind fun j => (ys[j]?).map fun y => (y, ys.eraseIdx j)
  | _ => none
def mtL (m : Mt) (ys xs : List D) : Option (D × List D) := match m with
  | .append => mtAppend ys xs
  | .pop => mtPop ys xs
  | .popAt => mtPopAt ys xs
  | .index => none
  | .count => none
def mthRef (m : Mt) (i : Nat) (xs : List D) (h : Hh) : R D := match h[i]? with
  | some (.lst ys) => match mtL m ys xs with
    | some p => .ok p.1 (h.set i (.lst p.2))
    | none => .bad
  | _ => .bad
def mthOp (m : Mt) (o : D) (xs : List D) (h : Hh) : R D := match o with
  | .ref i => mthRef m i xs h
  | _ => .bad
/-- positional and keyword arguments in the parameters' order -/
def pmD {α : Type} (d : α) (ks : List Nat) (xs ys : List α) : List α := ks.map fun k => (xs ++ ys).getD k d
def D.isL (h : Hh) : D → Bool
  | .ref i => match h[i]? with
    | some (.lst _) => true
    | _ => false
  | .lst _ => true
  | .fz _ => true
  | _ => false
/-- what an expression does: as a value, as a test -/
structure P where
  v : Env → Hh → R D
  t : Env → Hh → R Bool
def P.plain (v : Env → Hh → R D) : P := ⟨v, fun ρ h => (v ρ h).bind fun x h1 => R.opt (x.tru h1) h1⟩
/-- .. a row of expressions: their values, and, or of them as a value, as a test -/
structure PL where
  nil : Bool
  l : Env → Hh → R (List D)
  an : Env → Hh → R D
  on : Env → Hh → R D
  at_ : Env → Hh → R Bool
  ot : Env → Hh → R Bool
/-- a slice's part -/
def vPart (m : Bool) (p : P) (ρ : Env) (h : Hh) : R (Option Int) := if m then .ok none h else (p.v ρ h).bind fun d h1 => R.opt (d.isInt.map some) h1
/-- one turn of a comprehension -/
def lcTurn (t : Tg) (c e : P) (ρ : Env) (x : D) (h : Hh) : R (Option D) := match t.put x ρ with
  | none => .bad
  | some ρ' => (c.t ρ' h).bind fun ok h3 => if ok then (e.v ρ' h3).bind fun y h4 => .ok (some y) h4 else .ok none h3
def vBl (x : D) (h : Hh) : R Bool := R.opt x.isBl h
/-- a written tuple -/
def D.isF : D → Bool
  | .ftup _ => true
  | _ => false
/-- what t.index goes through -/
def D.ixs : D → Option (List D)
  | .ftup xs => some xs
  | .lst xs => some xs
  | .fz xs => some xs
  | _ => none
def idxD (ds : List D) : List D → Option D
  | [.int z] => (D.ints ds).bind fun ns => if z ∈ ns then some (.int (ns.idxOf z : Nat)) else none
  | _ => none
def mthI (po : P) (pl : PL) : P := .plain fun ρ h => (po.v ρ h).bind fun x h1 => match x.ixs with
  | some ds => (pl.l ρ h1).bind fun xs h2 => R.opt (idxD ds xs) h2
  | none => .bad
def mthP (m : Mt) (po : P) (pl : PL) : P := match m with
  | .index => mthI po pl
  | m => .plain fun ρ h => (po.v ρ h).bind fun x h1 => if x.isL h1 then (pl.l ρ h1).bind fun xs h2 => mthOp m x xs h2 else .bad
section
variable (F : Fns) (G : List D)
mutual
def evE : E → P
  | .var i => .plain fun ρ h => match ρ[i]? with
    | some (some d) => .ok d h
    | _ => .bad
  | .con d => .plain fun _ h => .ok d h
  | .glo i => .plain fun _ h => R.opt G[i]? h
  | .miss => ⟨fun _ h => .ok .non h, fun _ h => .ok true h⟩
  | .tup es => .plain fun ρ h => ((evEs es).l ρ h).bind fun xs h1 => if sizeOk xs.length then .ok (.tup xs) h1 else .bad
  | .ftup es => .plain fun ρ h => ((evEs es).l ρ h).bind fun xs h1 => if sizeOk xs.length then .ok (.ftup xs) h1 else .bad
  | .lst es => .plain fun ρ h => ((evEs es).l ρ h).bind fun xs h1 => if sizeOk xs.length then .ok (.lst xs) h1 else .bad
  | .new e => .plain fun ρ h => ((evE e).v ρ h).bind newObj
  | .dic0 => .plain fun _ h => .ok (.ref h.length) (h ++ [.dct []])
  | .bin o a b => .plain fun ρ h => ((evE a).v ρ h).bind fun x h1 => ((evE b).v ρ h1).bind fun y h2 => R.opt (opBin o h2 x y) h2
  | .neg a => .plain fun ρ h => ((evE a).v ρ h).bind fun x h1 => R.opt (x.isInt.map fun i => .int (-i)) h1
  | .cmp o a b => .plain fun ρ h => ((evE a).v ρ h).bind fun x h1 => ((evE b).v ρ h1).bind fun y h2 => R.opt ((opCmp o h2 x y).map D.bl) h2
  | .chain o p a b c => .plain fun ρ h => ((evE a).v ρ h).bind fun x h1 => ((evE b).v ρ h1).bind fun y h2 => (R.opt (opCmp o h2 x y) h2).bind fun t h3 =>
      if t then ((evE c).v ρ h3).bind fun z h4 => R.opt ((opCmp p h4 y z).map D.bl) h4 else .ok (.bl false) h3
  | .and a r => ⟨fun ρ h => ((evE a).v ρ h).bind fun x h1 => (vBl x h1).bind fun t h2 => if t then (evEs r).an ρ h2 else .ok (.bl false) h2,
      fun ρ h => ((evE a).t ρ h).bind fun t h1 => if t then (evEs r).at_ ρ h1 else .ok false h1⟩
  | .or a r => ⟨fun ρ h => ((evE a).v ρ h).bind fun x h1 => (vBl x h1).bind fun t h2 => if t then .ok (.bl true) h2 else (evEs r).on ρ h2,
      fun ρ h => ((evE a).t ρ h).bind fun t h1 => if t then .ok true h1 else (evEs r).ot ρ h1⟩
  | .not a => ⟨fun ρ h => ((evE a).v ρ h).bind fun x h1 => (vBl x h1).bind fun t h2 => .ok (.bl (!t)) h2,
      fun ρ h => ((evE a).t ρ h).bind fun t h1 => .ok (!t) h1⟩
  | .ite c a b => ⟨fun ρ h => ((evE c).t ρ h).bind fun t h1 => if t then (evE a).v ρ h1 else (evE b).v ρ h1,
      fun ρ h => ((evE c).t ρ h).bind fun t h1 => if t then (evE a).t ρ h1 else (evE b).t ρ h1⟩
  | .idx a i => .plain fun ρ h => ((evE a).v ρ h).bind fun x h1 => ((evE i).v ρ h1).bind fun y h2 => R.opt (opIdx h2 x y) h2
  | .slc a lo hi => .plain fun ρ h => ((evE a).v ρ h).bind fun x h1 => (vPart lo.isMiss (evE lo) ρ h1).bind fun l h2 => (vPart hi.isMiss (evE hi) ρ h2).bind fun u h3 => R.opt (opSlc h3 x l u) h3
  | .call f es => .plain fun ρ h => ((evEs es).l ρ h).bind fun xs h1 => F f xs h1
  | .callK f es kes ks => .plain fun ρ h => ((evEs es).l ρ h).bind fun xs h1 => ((evEs kes).l ρ h1).bind fun ys h2 => F f (pmD .non ks xs ys) h2
  | .bf f es => .plain fun ρ h => ((evEs es).l ρ h).bind fun xs h1 => R.opt (opBf f h1 xs) h1
  | .isi a t => .plain fun ρ h => ((evE a).v ρ h).bind fun x h1 => if x.isF then .bad else .ok (.bl (opIsi t h1 x)) h1
  | .mth m o es => mthP m (evE o) (evEs es)
  | .lc t it c e => .plain fun ρ h => (evI it ρ h).bind fun s h1 => if sizeOk s.items.length then lcLoop s.good (lcTurn t (evE c) (evE e) ρ) s.items [] h1 else .bad
  | .tenum a => .plain fun ρ h => ((evE a).v ρ h).bind fun x h1 => R.opt (tenumOp x) h1
  | .sset a => .plain fun ρ h => ((evE a).v ρ h).bind fun x h1 => R.opt (ssetOp h1 x) h1
def evEs : Es → PL
  | .nil => ⟨true, fun _ h => .ok [] h, fun _ _ => .bad, fun _ _ => .bad, fun _ _ => .bad, fun _ _ => .bad⟩
  | .cons e es => ⟨false,
      fun ρ h => ((evE e).v ρ h).bind fun x h1 => ((evEs es).l ρ h1).bind fun xs h2 => .ok (x :: xs) h2,
      fun ρ h => if (evEs es).nil then (evE e).v ρ h else ((evE e).v ρ h).bind fun x h1 => (vBl x h1).bind fun t h2 => if t then (evEs es).an ρ h2 else .ok (.bl false) h2,
      fun ρ h => if (evEs es).nil then (evE e).v ρ h else ((evE e).v ρ h).bind fun x h1 => (vBl x h1).bind fun t h2 => if t then .ok (.bl true) h2 else (evEs es).on ρ h2,
      fun ρ h => if (evEs es).nil then (evE e).t ρ h else ((evE e).t ρ h).bind fun t h1 => if t then (evEs es).at_ ρ h1 else .ok false h1,
      fun ρ h => if (evEs es).nil then (evE e).t ρ h else ((evE e).t ρ h).bind fun t h1 => if t then .ok true h1 else (evEs es).ot ρ h1⟩
def evI : I → Env → Hh → R Src
  | .ev e, ρ, h => ((evE e).v ρ h).bind fun x h1 => R.opt (x.src h1) h1
  | .rng n, ρ, h => ((evE n).v ρ h).bind fun x h1 => R.opt (x.isInt.bind fun n => if rngOk 0 n then some ⟨rngD 0 n, none⟩ else none) h1
  | .rng2 a b, ρ, h => ((evE a).v ρ h).bind fun x h1 => ((evE b).v ρ h1).bind fun y h2 => R.opt (x.isInt.bind fun i => y.isInt.bind fun j => if rngOk i j then some ⟨rngD i j, none⟩ else none) h2
  | .zip a b, ρ, h => ((evE a).v ρ h).bind fun x h1 => ((evE b).v ρ h1).bind fun y h2 => R.opt (zipSrc x y) h2
  | .enum a, ρ, h => ((evE a).v ρ h).bind fun x h1 => R.opt (enumSrc x) h1
end

/-! ### statements -/
inductive RS where
  | bad | nxt (ρ : Env) (h : Hh) | ret (d : D) (h : Hh) | brk (ρ : Env) (h : Hh) | cnt (ρ : Env) (h : Hh) | err (ρ : Env) (x : Xc) (h : Hh)
def R.then_ {α : Type} (r : R α) (f : α → Hh → RS) : RS := match r with
  | .bad => .bad
  | .ok a h => f a h
  | .err _ _ => .bad
/-- a call whose exception goes on -/
def R.thenX {α : Type} (r : R α) (ρ : Env) (f : α → Hh → RS) : RS := match r with
  | .bad => .bad
  | .ok a h => f a h
  | .err x h => .err ρ x h
@[simp] theorem R.then_ok {α : Type} (a : α) (h : Hh) (f : α → Hh → RS) : (R.ok a h).then_ f = f a h := rfl
@[simp] theorem R.then_bad {α : Type} (f : α → Hh → RS) : (R.bad : R α).then_ f = .bad := rfl
def RS.then_ (r : RS) (f : Env → Hh → RS) : RS := match r with
  | .nxt ρ h => f ρ h
  | r => r
def RS.opt (o : Option Env) (h : Hh) : RS := match o with
  | some ρ => .nxt ρ h
  | none => .bad
def whlLoop (c : Env → Hh → R Bool) (b : Env → Hh → RS) : Nat → Env → Hh → RS
  | 0, _, _ => .bad
  | n + 1, ρ, h => (c ρ h).then_ fun t h1 => if t then (match b ρ h1 with
      | .nxt ρ' h' => whlLoop c b n ρ' h'
      | .cnt ρ' h' => whlLoop c b n ρ' h'
      | .brk ρ' h' => .nxt ρ' h'
      | r => r) else .nxt ρ h1
def forLoop (good : Hh → Bool) (t : Tg) (b : Env → Hh → RS) : List D → Env → Hh → RS
  | [], ρ, h => if good h then .nxt ρ h else .bad
  | x :: xs, ρ, h => if good h then (match t.put x ρ with
      | none => .bad
      | some ρ1 => match b ρ1 h with
        | .nxt ρ' h' => forLoop good t b xs ρ' h'
        | .cnt ρ' h' => forLoop good t b xs ρ' h'
        | .brk ρ' h' => .nxt ρ' h'
        | r => r) else .bad
/-- so many turns a while may take -/
def wfuel : Nat := 2 ^ 64
def kill : List Nat → Env → Env
  | [], ρ => ρ
  | i :: is, ρ => kill is (ρ.set i none)
def Env.rlt (n : Nat) (ρ : Env) : Bool := ρ.all fun o => match o with
  | some d => d.rlt n
  | none => true
/-- names forgotten, then the objects from n on, if nothing leads to them -/
def gcS (ks : List Nat) (n : Nat) (r : RS) : RS := match r with
  | .nxt ρ h => if Env.rlt n (kill ks ρ) && Hh.rlt (h.take n) n then .nxt (kill ks ρ) (h.take n) else .bad
  | .brk ρ h => if Env.rlt n (kill ks ρ) && Hh.rlt (h.take n) n then .brk (kill ks ρ) (h.take n) else .bad
  | .cnt ρ h => if Env.rlt n (kill ks ρ) && Hh.rlt (h.take n) n then .cnt (kill ks ρ) (h.take n) else .bad
  | r => r
def stoOp (o i x : D) (h : Hh) : Option Hh := match o with
  | .ref r => match h[r]? with
    | some (.lst ys) => match i with
      | .int k => match ixN ys.length k with
        | some j => some (h.set r (.lst (ys.set j x)))
        | none => none
      | _ => none
    | some (.dct kvs) => match i.key with
      | some k => if sizeOk (kvs.length + 1) then some (h.set r (.dct (putD kvs k x))) else none
      | none => none
    | none => none
  | _ => none
/-- what the clause takes -/
def catchS (yes no : List Str) (f : Env → Hh → RS) (r : RS) : RS := match r with
  | .err ρ x h => if x.cls ∈ yes then f ρ h else if x.cls ∈ no then .err ρ x h else .bad
  | r => r
mutual
def evS : S → Env → Hh → RS
  | .asg i e, ρ, h => ((evE F G e).v ρ h).then_ fun x h1 => .nxt (ρ.set i (some x)) h1
  | .asgLc i e, ρ, h => ((evE F G e).v ρ h).then_ fun x h1 => .nxt (ρ.set i (some x)) h1
  | .par i j a b, ρ, h => ((evE F G a).v ρ h).then_ fun x h1 => ((evE F G b).v ρ h1).then_ fun y h2 => .nxt ((ρ.set i (some x)).set j (some y)) h2
  | .unp is e, ρ, h => ((evE F G e).v ρ h).then_ fun x h1 => RS.opt ((Tg.tu is).put x ρ) h1
  | .sto o i e, ρ, h => ((evE F G e).v ρ h).then_ fun x h1 => ((evE F G o).v ρ h1).then_ fun y h2 => ((evE F G i).v ρ h2).then_ fun z h3 => match stoOp y z x h3 with
    | some h4 => .nxt ρ h4
    | none => .bad
  | .aug i o e, ρ, h => match ρ[i]? with
    | some (some x) => ((evE F G e).v ρ h).then_ fun y h1 => match augOp o x y with
      | some z => .nxt (ρ.set i (some z)) h1
      | none => .bad
    | _ => .bad
  | .augL i e, ρ, h => match ρ[i]? with
    | some (some (.ref r)) => ((evE F G e).v ρ h).then_ fun y h1 => match h1[r]?, y.seq h1 with
      | some (.lst xs), some ys => if sizeOk (xs.length + ys.length) then .nxt ρ (h1.set r (.lst (xs ++ ys))) else .bad
      | _, _ => .bad
    | _ => .bad
  | .exp e, ρ, h => ((evE F G e).v ρ h).then_ fun _ h1 => .nxt ρ h1
  | .ret e, ρ, h => ((evE F G e).v ρ h).then_ fun x h1 => .ret x h1
  | .retN, _, h => .ret .non h
  | .ite c a b, ρ, h => ((evE F G c).t ρ h).then_ fun t h1 => if t then evSs a ρ h1 else evSs b ρ h1
  | .whl c b, ρ, h => whlLoop (evE F G c).t (evSs b) wfuel ρ h
  | .for_ t it b, ρ, h => (evI F G it ρ h).then_ fun s h1 => forLoop s.good t (evSs b) s.items ρ h1
  | .pass, ρ, h => .nxt ρ h
  | .brk, ρ, h => .brk ρ h
  | .cnt, ρ, h => .cnt ρ h
  | .gc ks b, ρ, h => gcS ks h.length (evS b ρ h)
  | .asgC i f es, ρ, h => ((evEs F G es).l ρ h).then_ fun xs h1 => (F f xs h1).thenX ρ fun x h2 => .nxt (ρ.set i (some x)) h2
  | .expC f es, ρ, h => ((evEs F G es).l ρ h).then_ fun xs h1 => (F f xs h1).thenX ρ fun _ h2 => .nxt ρ h2
  | .retC f es, ρ, h => ((evEs F G es).l ρ h).then_ fun xs h1 => (F f xs h1).thenX ρ fun x h2 => .ret x h2
  | .raise_ c, ρ, h => .err ρ ⟨c, .non⟩ h
  | .try_ b _ yes no s, ρ, h => catchS yes no (evSs s) (evSs b ρ h)
def evSs : Ss → Env → Hh → RS
  | .nil, ρ, h => .nxt ρ h
  | .cons s ss, ρ, h => (evS s ρ h).then_ (evSs ss)
end
end

/-! ### defs -/
structure Fn where
  name : Str
  N : List Str
  P : List Str
  frz : Bool
  body : Ss
  /-- the shapes of its calls with keywords: so many in front, these names, the order -/
  kw : List (Nat × List Str × List Nat) := []
/-- the objects from n on, as they stand -/
def D.frz (h : Hh) (n : Nat) : Nat → D → D
  | 0, d => d
  | k + 1, d => match d with
    | .ref i => if i < n then .ref i else match h[i]? with
      | some (.lst xs) => .lst (xs.map (D.frz h n k))
      | _ => .ref i
    | .tup xs => .tup (xs.map (D.frz h n k))
    | .lst xs => .lst (xs.map (D.frz h n k))
    | d => d
/-- a def's end: its lists are from now on never changed (frz), what it made is let go -/
def finD (f : Bool) (n : Nat) (d : D) (h : Hh) : R D :=
  if f then (if (d.frz h n 4).rlt n && Hh.rlt (h.take n) n then .ok (d.frz h n 4) (h.take n) else .bad) else .ok d h
def finR (f : Bool) (n : Nat) (r : RS) : R D := match r with
  | .ret d h => finD f n d h
  | .nxt _ h => finD f n .non h
  | .err _ x h => .err x h
  | _ => .bad
def callN (T : List Fn) (G : List D) : Nat → Fns
  | 0 => fun _ _ _ => .bad
  | k + 1 => fun f args h => match T[f]? with
    | none => .bad
    | some fn => if args.length = fn.P.length then finR fn.frz h.length (evSs (callN T G k) G fn.body (args.map some ++ List.replicate (fn.N.length - args.length) none) h) else .bad
end PV
end

section
set_option maxRecDepth 100000
/-! PvX: a set made of a list of ints, sorted. -/
namespace PVX
open PySem L2 PyProof.Rows PySem.Spec
abbrev oS (w : World) : Obj := { cls := .type "set", dict := none, data := .set #[] 0 (.fresh 0 0 (!w.params.followText "set-order")) }
abbrev gS (w : World) (h : Heap) : Heap := h.push (oS w)
/-- the heap behind set(l) -/
def After (w : World) (s : Shared) (ns : List Int) (v : Value) (s2 : Shared) : Prop := v = .none ∧ ∃ (g : Heap) (tk c : Nat), s2 = { s with heap := g, toks := tk } ∧ SetR w g s.heap.objs.size (fun j => decide (j ∈ ns)) c ∧ c ≤ ns.length ∧ ∀ b o, s.heap.get? b = some o → g.get? b = some o
section
variable {P : Program} {w : World} {A : Around} {s : Shared} {E : Value → Shared → Prop}
set_option maxHeartbeats 3100000 in
theorem init_list {l : Addr} {items : Array Value} (ns : List Int) (hh : A.handled = none) (hl : s.heap.IsList l items) (hit : IntsAre items.toList ns) (hb : ns.length + 1 < scanBound) :
    codeAny (model P w) A (.call (.builtin "set.__init__") ⟨[.ref s.heap.objs.size, .ref l], []⟩) (wants (After w s ns) E) { s with heap := gS w s.heap } := by
  have zi : items.size = ns.length := by rw [← Array.length_toList]; exact IntsAre.length hit
  have at0 : (gS w s.heap).get? s.heap.objs.size = some (oS w) := Heap.get?_push_size _ rfl
  have ty0 : Shared.TypeIs { s with heap := gS w s.heap } (.ref s.heap.objs.size) "set" := ⟨_, at0, rfl⟩
  refine codeAny_call_builtin F.called_set.init.plain F.entry_set_init (check_set_init_1 ty0 ?_)
  have ll : (gS w s.heap).IsList l items := hl.push _
  obtain ⟨⟨cl, dc, dt, sl⟩, got, ec, nl, ed⟩ := hl
  cases (show cl = .type "list" from ec)
  cases (show dt = .seq items nl from ed)
  have got1 : (gS w s.heap).get? l = some { cls := .type "list", dict := dc, data := .seq items nl, slots := sl } := Heap.get?_push_of_some _ got
  have f1 := F.sub_list_set
  have f2 := F.sub_list_frozenset
  have f3 : (Value.type "list" == Value.type "dict") = false := by decide
  (unfold Builtin.«set.__init__» noKeywords Builtin.Frozenset.updateFrom)
  generalize q : pyIter = it0
  wp_walk
  subst q
  refine wpAny_pyIter_list ll (wpAny_bind (wpAny_runValue ?_))
  have lts : l < s.heap.objs.size := Heap.lt_size got
  have z1 : (gS w s.heap).objs.size = s.heap.objs.size + 1 := Heap.size_push ..
  have n1 : l ≠ (gS w s.heap).objs.size := Nat.ne_of_lt (Nat.lt_of_lt_of_le lts (by rw [z1]; exact Nat.le_succ _))
  have n2 : s.heap.objs.size ∉ [(gS w s.heap).objs.size, l] := by
    intro hm
    (rcases List.mem_cons.mp hm with e | e)
    · rw [z1] at e; omega
    · exact Nat.lt_irrefl _ (Nat.lt_of_le_of_lt (Nat.le_of_eq (List.mem_singleton.mp e)) lts)
  refine set_update_ints ((Walks.list (by simpa using hh) _ l n1 items).toS) s.heap.objs.size n2 ns zi hb (fun i v hv => ?_) (items.size - 0) 0 _ (Nat.sub_zero _) (Nat.zero_le _) ⟨⟨_, Heap.get?_push_size _ rfl, rfl, rfl⟩, ll.push _⟩ ⟨0, Nat.le_refl 0, setR_new_at (Heap.get?_push_of_some _ at0)⟩ ?_
  · have lt : i < ns.length := by rw [← zi]; exact (Array.getElem?_eq_some_iff.mp hv).1
    obtain ⟨t, e⟩ := IntsAre.int_at hit i v (by rw [Array.getElem?_toList]; exact hv)
    exact ⟨ns[i], t, List.getElem?_eq_getElem lt, by rw [e, List.getD_eq_getElem?_getD, List.getElem?_eq_getElem lt] <;> rfl⟩
  · rintro ⟨g, gn, dr, tk, os⟩ c mv hc sr
    cases (show gn = s.gens from mv.gens)
    cases (show dr = s.drawn from mv.drawn)
    cases (show os = s.os from mv.os)
    refine wpAny_pure (wpAny_pure ⟨rfl, g, tk, c, rfl, sr, by rw [← zi]; exact hc, fun b o e => ?_⟩)
    have lb : b < s.heap.objs.size := Heap.lt_size e
    refine mv.heap b o (fun hm => ?_) (Heap.get?_push_of_some _ (Heap.get?_push_of_some _ e))
    rcases List.mem_cons.mp hm with e2 | e2
    · have e2 : b = s.heap.objs.size := e2
      exact Nat.ne_of_lt lb e2
    · have e2 : b = (gS w s.heap).objs.size := List.mem_singleton.mp e2
      rw [z1] at e2; exact Nat.ne_of_lt (Nat.lt_succ_of_lt lb) e2
/-- set(l) of a list of ints -/
theorem call_set_lst {l : Addr} {items : Array Value} (ns : List Int) {Q : Value → Shared → Prop} (hh : A.handled = none) (hl : s.heap.IsList l items) (hit : IntsAre items.toList ns) (hb : ns.length + 1 < scanBound)
    (hQ : ∀ (g : Heap) (tk c : Nat), SetR w g s.heap.objs.size (fun j => decide (j ∈ ns)) c → c ≤ ns.length → (∀ b o, s.heap.get? b = some o → g.get? b = some o) → Q (.ref s.heap.objs.size) { s with heap := g, toks := tk }) :
    (wpAny (model P w) A (call (.type "set") [.ref l]) Q E s) := by
  have ft := F.called_set
  obtain ⟨c0, tl, hmro⟩ := ft.mro
  have hmade := ft.made
  have hsub := ft.sub
  (refine wpAny_call (codeAny_of_tree ?_))
  (show wpAny _ _ (callAny (.type "set") _) _ _ _)
  (refine wpAny_pure ⟨Code.quiet_builtin _ (by decide +kernel), codeAny_builtin F.entry_type_call ?_⟩)
  (rw [Around.under_plain (weight_type_call_type "set" [.ref l] []) rfl])
  have k1 := ft.notType
  have k2 := ft.canCreate
  have k3 := F.typeCall_set_1 (.ref l)
  repeat any_goals (first | assumption | wp_step)
  refine codeAny_mono (code_set_led1 (.ref l) (E := E) (Q₁ := fun v s1 => v = .ref s.heap.objs.size ∧ s1 = { s with heap := gS w s.heap }) ⟨rfl, rfl⟩) fun r s1 hr => ?_
  cases r with
  | error e => exact hr
  | ok fl => cases fl with
    | ret v =>
      obtain ⟨rfl, rfl⟩ := hr
      have k4 : Shared.TypeIs { s with heap := gS w s.heap } (.ref s.heap.objs.size) "set" := ⟨_, Heap.get?_push_size _ rfl, rfl⟩
      have k5 := ft.init.lookup
      have k6 := ft.init.bind (.ref s.heap.objs.size)
      repeat any_goals (first | assumption | wp_step)
      refine codeAny_mono (init_list (E := E) ns (A := A.in1) hh hl hit hb) fun r2 s2 hr2 => ?_
      cases r2 with
      | error e => exact hr2
      | ok fl2 => cases fl2 with
        | ret v2 =>
          obtain ⟨rfl, g, tk, c, rfl, sr, hc, keep⟩ := hr2
          repeat any_goals (first | assumption | wp_step)
          exact hQ g tk c sr hc keep
        | _ => exact hr2.elim
    | _ => exact hr.elim
/-- what stands behind a collecting of a sequence -/
def Got (s : Shared) (its : Array Value) (s2 : Shared) : Prop := s2 = { s with heap := (s.heap.push { cls := .type "list", data := .seq ([] : List Value).toArray }).update s.heap.objs.size (Obj.mapSeq (· ++ its)) }
theorem collect_seqX {Q : List Value → Shared → Prop} {a : Addr} {T : String} {o : Obj} {its : Array Value} {n : Nat} (hT : T = "list" ∨ T = "tuple") (ho : s.heap.get? a = some o) (hc : o.cls = .type T) (hd : o.data = .seq its n) (hz : its.size ≤ sizeLine)
    (hQ : ∀ g : Heap, (∀ b o2, s.heap.get? b = some o2 → g.get? b = some o2) → s.heap.objs.size ≤ g.objs.size → Q its.toList { s with heap := g }) : wpAny (model P w) A (collect (.ref a)) Q E s := by
  have k0 : (s.heap.push { cls := .type "list", data := .seq ([] : List Value).toArray }).get? s.heap.objs.size = some { cls := .type "list", data := .seq ([] : List Value).toArray } := Heap.get?_push_size _ rfl
  have k1 := Heap.get?_update_self (Obj.mapSeq (· ++ its)) k0 rfl
  have close : ∀ s2, Got s its s2 → wpAny (model P w) A (load s.heap.objs.size >>= fun ob => match ob.data with
      | .seq xs _ => pure xs.toList
      | _ => unsupported "internal:collect") Q E s2 := fun s2 e => by
    subst e
    refine wpAny_bind (wpAny_load k1 (wpAny_pure ?_))
    have e2 : ((#[] : Array Value) ++ its).toList = its.toList := by simp
    (show Q ((#[] : Array Value) ++ its).toList _)
    rw [e2]
    exact hQ _ (fun b o2 hb => (Heap.get?_update_other _ _ (Nat.ne_of_gt (Heap.lt_size hb))).trans (Heap.get?_push_of_some _ hb)) (by rw [Heap.size_update, Heap.size_push]; exact Nat.le_succ _)
  unfold collect
  refine wpAny_bind (wpAny_runValue (codeAny_builtin F.entry_proto_collect ?_)); rw [Around.under_plainId F.plain_proto_collect _]
  (show wpAny _ A.in1 (newList [] >>= fun l => again (.builtin "list.__iadd__" ⟨[l, .ref a], []⟩)) _ _ s)
  refine wpAny_bind (wpAny_newObj_type (wpAny_pure ⟨plainId_quiet F.plain_list_iadd _, codeAny_builtin F.entry_list_iadd ?_⟩)); rw [Around.under_plainId F.plain_list_iadd _]
  refine wpAny_mono (wpAny_extend_seq (hsz := hz) (A := A) (R := fun r s2 => r = .ok (.ret (.ref s.heap.objs.size)) ∧ Got s its s2) (s := { s with heap := s.heap.push { cls := .type "list", data := .seq ([] : List Value).toArray } }) _ a _ 0 hT k0 (Heap.get?_push_of_some _ ho) hc hd ⟨rfl, rfl⟩) (fun fin s2 r => ?_) (fun e s2 r => ?_)
  · cases fin with
    | done f => obtain ⟨e, r⟩ := r; cases e; exact close s2 r
    | again c => exact ⟨r.1, codeAny_mono r.2 fun rr s3 ⟨e, r⟩ => by subst e; exact close s3 r⟩
  · exact absurd r.1 (by simp)
/-- sorted(xs) of a list or a tuple -/
theorem sorted_seqI {ns : List Int} {Q : Value → Shared → Prop} {a : Addr} {T : String} {o : Obj} {its : Array Value} {n : Nat} (hT : T = "list" ∨ T = "tuple") (ho : s.heap.get? a = some o) (hc : o.cls = .type T) (hd : o.data = .seq its n) (hI : IntsAre its.toList ns) (h64 : ns.length < 64)
    (hQ : ∀ (p : Addr) (g : Heap) (c : Nat) (out : Array Value) (ns2 : List Int), (∀ b o2, s.heap.get? b = some o2 → g.get? b = some o2) → s.heap.objs.size ≤ p → g.get? p = some (seqObj "list" out c) → IntsAre out.toList ns2 → ns2.Perm ns → ns2.Pairwise (· ≤ ·) → Q (.ref p) { s with heap := g }) :
    (wpAny (model P w) A (call (.builtin "sorted") [.ref a]) Q E s) := by
  have zl : its.toList.length = ns.length := IntsAre.length hI
  have zz : its.size = ns.length := by rw [← zl, Array.length_toList]
  (refine Calls.call_function_entry kind_sorted plain_sorted entry_sorted (args_sorted1 _) ?_)
  unfold Builtin.«sorted»
  refine wpAny_bind (m := checkCount "sorted" 1 1 _) (wpAny_pure (wpAny_bind (collect_seqX (A := A.in1) hT ho hc hd (by rw [zz, sizeLine_eq]; omega) fun g keep hsz => wpAny_bind (wpAny_newList ?_ (by rw [zl, sizeLine_eq]; omega)))))
  have at1 : (g.push (seqObj "list" its.toList.toArray 0)).get? g.objs.size = some (seqObj "list" its.toList.toArray 0) := Heap.get?_push_size _ rfl
  refine wpAny_bind (wpAny_holding (wpAny_call_entry slot_list_sort ⟨_, at1, rfl⟩ entry_list_sort (list_sort_tree at1 hI (by rw [zl]; exact h64) fun out ns2 a1 a2 a3 => ⟨_, rfl, ?_⟩) (args_list_sort _)))
  obtain ⟨c, hc⟩ := sortedHeap_at (vs := its.toList) (out := out) at1
  refine wpAny_pure ⟨_, rfl, hQ g.objs.size _ c out ns2 (fun b u e => ?_) hsz hc a1 a2 a3⟩
  have e := keep b u e
  have lt := Heap.lt_size e
  exact (sortedHeap_old (Nat.ne_of_lt lt) (by rw [size_push']; exact Nat.lt_succ_of_lt lt)).trans (Heap.get?_push_of_some _ e)
theorem sorted_seqS {ns : List Str} {Q : Value → Shared → Prop} {a : Addr} {T : String} {o : Obj} {its : Array Value} {n : Nat} (hT : T = "list" ∨ T = "tuple") (ho : s.heap.get? a = some o) (hc : o.cls = .type T) (hd : o.data = .seq its n) (hI : StrsAre its.toList ns) (h64 : ns.length < 64)
    (hQ : ∀ (p : Addr) (g : Heap) (c : Nat) (out : Array Value) (ns2 : List Str), (∀ b o2, s.heap.get? b = some o2 → g.get? b = some o2) → s.heap.objs.size ≤ p → g.get? p = some (seqObj "list" out c) → StrsAre out.toList ns2 → ns2.Perm ns → sortedS ns2 = true → Q (.ref p) { s with heap := g }) :
    (wpAny (model P w) A (call (.builtin "sorted") [.ref a]) Q E s) := by
  have zl : its.toList.length = ns.length := StrsAre.length hI
  have zz : its.size = ns.length := by rw [← zl, Array.length_toList]
  (refine Calls.call_function_entry kind_sorted plain_sorted entry_sorted (args_sorted1 _) ?_)
  unfold Builtin.«sorted»
  refine wpAny_bind (m := checkCount "sorted" 1 1 _) (wpAny_pure (wpAny_bind (collect_seqX (A := A.in1) hT ho hc hd (by rw [zz, sizeLine_eq]; omega) fun g keep hsz => wpAny_bind (wpAny_newList ?_ (by rw [zl, sizeLine_eq]; omega)))))
  have at1 : (g.push (seqObj "list" its.toList.toArray 0)).get? g.objs.size = some (seqObj "list" its.toList.toArray 0) := Heap.get?_push_size _ rfl
  refine wpAny_bind (wpAny_holding (wpAny_call_entry slot_list_sort ⟨_, at1, rfl⟩ entry_list_sort (list_sort_treeK strKind_oneLt at1 hI.keysOf (fun v1 v2 r e => keyKind_strs (by rw [← e]; exact hI)) (by rw [zl]; exact h64) fun st a1 a2 => ⟨_, rfl, ?_⟩) (args_list_sort _)))
  obtain ⟨ns2, b1, b2, b3⟩ := sorted_out_str hI a1 a2
  obtain ⟨c, hc⟩ := sortedHeap_at (vs := its.toList) (out := (arrOf st).map (·.2)) at1
  refine wpAny_pure ⟨_, rfl, hQ g.objs.size _ c _ ns2 (fun b u e => ?_) hsz hc b1 b2 b3⟩
  have e := keep b u e
  have lt := Heap.lt_size e
  exact (sortedHeap_old (Nat.ne_of_lt lt) (by rw [size_push']; exact Nat.lt_succ_of_lt lt)).trans (Heap.get?_push_of_some _ e)
end
section
variable {X : Cx}
def rSetL (K : PySem.W.Frag) (w : World) : List V → Hp → VK → Prop := fun xs H Q => ∃ (a : Addr) (ns : List Int), xs = [.ref a] ∧ SqL K H a (ns.map V.int) ∧ ns.length < 64 ∧ ∀ p c, H p = none → c ≤ ns.length → Q (.ref p) (upd H p (SetO w p (fun j => decide (j ∈ ns)) c))
theorem cr_setL (hc : X.calm = true) : CallR X (.type "set") (rSetL X.K X.w) := by
  intro pins s σ H xs us Q I r ⟨a, ns, e, hs, h64, q⟩
  subst e
  (obtain ⟨its, rv, hl, _⟩ := I.list hs)
  rw [Vals.ref1 r]
  have hi : IntsAre its.toArray.toList ns := by simpa using rv.ints
  exact call_set_lst ns (I.ok.hd hc) hl.isList hi (by unfold scanBound; omega) fun g tk c sr hc2 keep => ⟨.ref _, _, I.laid (t' := tk) keep (Nat.le_refl _) (setO_new sr), rfl, q _ c (I.hok.fresh (Nat.le_refl _)) hc2⟩
def rSrtI (K : PySem.W.Frag) : List V → Hp → VK → Prop := fun xs H Q => ∃ (a : Addr) (ns : List Int), xs = [.ref a] ∧ (SqL K H a (ns.map V.int) ∨ SqT K H a (ns.map V.int)) ∧ ns.length < 64 ∧ ∀ (ns2 : List Int) (p : Addr), ns2.Perm ns → ns2.Pairwise (· ≤ ·) → H p = none → Q (.ref p) (upd H p (.lst (ns2.map V.int)))
def rSrtS (K : PySem.W.Frag) : List V → Hp → VK → Prop := fun xs H Q => ∃ (a : Addr) (ns : List Str), xs = [.ref a] ∧ (SqL K H a (ns.map V.str) ∨ SqT K H a (ns.map V.str)) ∧ ns.length < 64 ∧ ∀ (ns2 : List Str) (p : Addr), ns2.Perm ns → sortedS ns2 = true → H p = none → Q (.ref p) (upd H p (.lst (ns2.map V.str)))
theorem cr_srtI : CallR X (.builtin "sorted") (rSrtI X.K) := by
  intro pins s σ H xs us Q I r ⟨a, ns, e, hs, h64, q⟩
  subst e
  rw [Vals.ref1 r]
  obtain ⟨its, T, o, n, rv, hT, ho, hc, hd⟩ : ∃ (its : List Value) (T : String) (o : Obj) (n : Nat), Vals (ns.map V.int) its ∧ (T = "list" ∨ T = "tuple") ∧ s.heap.get? a = some o ∧ o.cls = .type T ∧ o.data = .seq its.toArray n := by
    rcases hs with hs | hs
    · obtain ⟨its, rv, hl, _⟩ := I.list hs
      obtain ⟨o, ho, hc, n, hd⟩ := hl.isList
      exact ⟨its, _, o, n, rv, .inl rfl, ho, hc, hd⟩
    · obtain ⟨its, rv, ⟨o, ho, hc, n, hd⟩, _⟩ := I.tuple hs
      exact ⟨its, _, o, n, rv, .inr rfl, ho, hc, hd⟩
  refine sorted_seqI hT ho hc hd (by simpa using rv.ints) h64 fun p g c out ns2 keep hp hg a1 a2 a3 => ?_
  have hlen : (ns2.map V.int).length ≤ sizeLine := by rw [List.length_map, a2.length_eq]; exact small64 h64
  exact ⟨.ref p, _, I.laid (t' := s.toks) (o := .lst (ns2.map V.int)) keep hp ⟨hlen, out.toList, c, vals_of_ints a1, hg⟩, rfl, q ns2 p a2 a3 (I.hok.fresh hp)⟩
theorem cr_srtS : CallR X (.builtin "sorted") (rSrtS X.K) := by
  intro pins s σ H xs us Q I r ⟨a, ns, e, hs, h64, q⟩
  subst e
  rw [Vals.ref1 r]
  obtain ⟨its, T, o, n, rv, hT, ho, hc, hd⟩ : ∃ (its : List Value) (T : String) (o : Obj) (n : Nat), Vals (ns.map V.str) its ∧ (T = "list" ∨ T = "tuple") ∧ s.heap.get? a = some o ∧ o.cls = .type T ∧ o.data = .seq its.toArray n := by
    rcases hs with hs | hs
    · obtain ⟨its, rv, hl, _⟩ := I.list hs
      obtain ⟨o, ho, hc, n, hd⟩ := hl.isList
      exact ⟨its, _, o, n, rv, .inl rfl, ho, hc, hd⟩
    · obtain ⟨its, rv, ⟨o, ho, hc, n, hd⟩, _⟩ := I.tuple hs
      exact ⟨its, _, o, n, rv, .inr rfl, ho, hc, hd⟩
  refine sorted_seqS hT ho hc hd (by simpa using rv.strs) h64 fun p g c out ns2 keep hp hg a1 a2 a3 => ?_
  have hlen : (ns2.map V.str).length ≤ sizeLine := by rw [List.length_map, a2.length_eq]; exact small64 h64
  exact ⟨.ref p, _, I.laid (t' := s.toks) (o := .lst (ns2.map V.str)) keep hp ⟨hlen, out.toList, c, vals_of_strs a1, hg⟩, rfl, q ns2 p a2 a3 (I.hok.fresh hp)⟩
/-- a tuple times a number, more of them -/
def rTimes (K : PySem.W.Frag) : R2 := fun x y H Q => ∃ l k xs, x = .ref l ∧ y = .int k ∧ SqT K H l xs ∧ xs ≠ [] ∧ 2 ≤ k ∧ k ≤ 1000000 ∧ k.toNat * xs.length ≤ 1000000 ∧ ∀ p, H p = none → Q (.ref p) (upd H p (.tup (List.replicate k.toNat xs).flatten))
theorem op_times : OpR X (binaryOp .Mult) (rTimes X.K) := by
  intro pins s σ H x y v u Q I rx ry ⟨l, k, xs, ex, ey, hT, hne, k1, k2, kz, q⟩
  subst ex; subst ey
  cases rx
  obtain ⟨t, rfl⟩ := ry
  obtain ⟨its, r, ⟨⟨cls, dd, data, sl⟩, got, ec, n, ed⟩, _⟩ := I.tuple hT
  cases (show cls = .type "tuple" from ec)
  cases (show data = .seq its.toArray n from ed)
  have zl : its.length = xs.length := r.length.symm
  have lz : (its.toArray.size : Nat) = xs.length := by rw [List.size_toArray, zl]
  have pos : 0 < xs.length := List.length_pos_iff.mpr hne
  have kn : ((k.toNat : Nat) : Int) = k := Int.toNat_of_nonneg (by omega)
  have pz : ((its.toArray.size : Nat) : Int) * k ≤ 1000000 := by
    have z : ((k.toNat * xs.length : Nat) : Int) ≤ ((1000000 : Nat) : Int) := Int.ofNat_le.mpr kz
    rw [Int.natCast_mul, kn] at z
    rw [lz, Int.mul_comm]; exact z
  have em : its.toArray.isEmpty = false := by
    cases its with
    | nil => rw [List.length_nil] at zl; omega
    | cons _ _ => rfl
  have fl : (List.replicate k.toNat its).flatten.length ≤ sizeLine := by rw [PyProof.Rows.lm_len_rep_flat, zl, sizeLine_eq]; omega
  have d0 : (decide (k < -(2 ^ 63)) || decide (k ≥ 2 ^ 63)) = false := by
    (rw [decide_eq_false (by omega), decide_eq_false (by omega)] <;> rfl)
  have d1 : (its.toArray.isEmpty || k == 1) = false := by rw [em]; simp; omega
  have d2 : (decide (k ≤ 0) || its.toArray.isEmpty) = false := by rw [em]; simp; omega
  have d4 : Builtin.Tuple.tupleTooMany (((its.toArray.size : Nat) : Int) * k) = false := by
    unfold Builtin.Tuple.tupleTooMany; rw [sizeLine_eq]; exact decide_eq_false (by omega)
  have mul := tuple_mulW l its.toArray n dd sl k t d0 d1 d2 (by omega) d4 (by rw [size_rep, List.size_toArray]; exact fl)
  refine wpAny_binaryOp_repeat_ref (T := "tuple") (U := "int") (by decide) ⟨_, got, rfl⟩ (fun s2 => typeIs_int s2 k t) noFill_tuple_mul F.fills_int_mul F.slot_int_rmul repeat_tuple F.slot_int_index.lookup (call_meets F.slot_int_rmul (typeIs_int s k t) F.entry_int_rmul (F.args_int_rmul_2 _ _) (int_rmul_tuple k t l its.toArray n dd sl) ⟨got, rfl, ⟨_, got, rfl⟩, call_meets F.slot_tuple_mul ⟨_, got, rfl⟩ F.entry_tuple_mul (F.args_tuple_mul_2 _ _) mul ⟨got, ?_⟩⟩)
  rw [size_rep]
  exact ⟨.ref s.heap.objs.size, _, I.laid (t' := s.toks) (o := .tup (List.replicate k.toNat xs).flatten) (fun b ob e => Heap.get?_push_of_some _ e) (Nat.le_refl _) ⟨by rw [PyProof.Rows.lm_len_rep_flat, sizeLine_eq]; omega, _, r.rep k.toNat, IsTup.new _ _⟩, rfl, q _ (I.hok.fresh (Nat.le_refl _))⟩
end
end PVX
end

section
set_option maxRecDepth 100000
namespace PV
open L2 PySem PySem.Spec PyProof.Rows

/-- where the mutable objects stand; addresses that no data may name -/
structure Jn where
  l : List Addr
  z : List Addr
section
variable (K : PySem.W.Frag)
mutual
/-- data as it lies in the heap -/
inductive RD (J : Jn) (H : Hp) : D → V → Prop
  | non : RD J H .non .non
  | bl (b : Bool) : RD J H (.bl b) (.bl b)
  | int (i : Int) : RD J H (.int i) (.int i)
  | str (x : Str) : RD J H (.str x) (.str x)
  | tup {a : Addr} {ds : List D} {vs : List V} : a ∉ J.l → a ∉ J.z → H a = some (.tup vs) → vs.length ≤ sizeLine → RDs J H ds vs → RD J H (.tup ds) (.ref a)
  | ktup {a : Addr} {ds : List D} {vs : List V} (k : ∃ (o : Obj) (its : Array Value) (n : Nat), K.lookup a = some o ∧ o.cls = .type "tuple" ∧ o.data = .seq its n ∧ its.size ≤ sizeLine ∧ Vals vs its.toList) : vs.length ≤ sizeLine → RDs J H ds vs → RD J H (.tup ds) (.ref a)
  | lst {a : Addr} {ds : List D} {vs : List V} : a ∉ J.l → a ∉ J.z → H a = some (.lst vs) → vs.length ≤ sizeLine → RDs J H ds vs → RD J H (.lst ds) (.ref a)
  | ref {i : Nat} {a : Addr} : J.l[i]? = some a → RD J H (.ref i) (.ref a)
  | fz {a : Addr} {o : Obj} {ds : List D} {vs : List V} : a ∉ J.l → a ∉ J.z → H a = some (.frz o (.lst vs)) → vs.length ≤ sizeLine → RDs J H ds vs → RD J H (.fz ds) (.ref a)
  | ft {a : Addr} {o : Obj} {ds : List D} {vs : List V} : a ∉ J.l → a ∉ J.z → H a = some (.frz o (.tup vs)) → o.cls = .type "tuple" → o.dict = none → vs.length ≤ sizeLine → RDs J H ds vs → RD J H (.ftup ds) (.ref a)
  | kfz {a : Addr} {ds : List D} {vs : List V} (k : ∃ (o : Obj) (its : Array Value) (n : Nat), K.lookup a = some o ∧ o.cls = .type "list" ∧ o.dict = none ∧ o.data = .seq its n ∧ its.size ≤ sizeLine ∧ Vals vs its.toList) : vs.length ≤ sizeLine → RDs J H ds vs → RD J H (.fz ds) (.ref a)
inductive RDs (J : Jn) (H : Hp) : List D → List V → Prop
  | nil : RDs J H [] []
  | cons {d : D} {ds : List D} {v : V} {vs : List V} : RD J H d v → RDs J H ds vs → RDs J H (d :: ds) (v :: vs)
end
inductive RO (J : Jn) (H : Hp) : O → HO → Prop
  | lst {ds : List D} {vs : List V} : vs.length ≤ sizeLine → RDs K J H ds vs → RO J H (.lst ds) (.lst vs)
  | dct {kvs : List (Key × D)} {kws : List (Key × V)} : kws.length ≤ sizeLine → Paired (fun p q => p.1 = q.1 ∧ RD K J H p.2 q.2) kvs kws → RO J H (.dct kvs) (.dK kws)
structure RH (J : Jn) (h : Hh) (H : Hp) : Prop where
  nd : J.l.Nodup
  len : J.l.length = h.length
  obj : ∀ (i : Nat) (o : O), h[i]? = some o → ∃ a u, J.l[i]? = some a ∧ H a = some u ∧ RO K J H o u
  apart : ∀ a ∈ J.z, a ∉ J.l
  zed : ∀ a ∈ J.z, H a ≠ none
end
/-- what stood, stands, but for the mutable objects; the new ones were not there -/
structure Ext (J : Jn) (H : Hp) (J' : Jn) (H' : Hp) : Prop where
  z : J'.z = J.z
  pre : ∃ m, J'.l = J.l ++ m ∧ ∀ a ∈ m, H a = none
  keep : ∀ a o, a ∉ J.l → H a = some o → H' a = some o

section
variable {K : PySem.W.Frag} {J J' J2 : Jn} {H H' H2 : Hp} {h h' : Hh} {d : D} {v : V} {ds : List D} {vs : List V}
theorem RDs.length (r : RDs K J H ds vs) : ds.length = vs.length := by
  induction ds generalizing vs with
  | nil => cases r; rfl
  | cons d ds ih => cases r with | cons _ t => simp [ih t]
theorem RDs.get : ∀ {ds : List D} {vs : List V} {i : Nat} {d : D}, RDs K J H ds vs → ds[i]? = some d → ∃ v, vs[i]? = some v ∧ RD K J H d v
  | _, _, _, _, .nil, e => (by simp at e)
  | _, _, 0, _, .cons r _, e => (by simp at e; subst e; exact ⟨_, rfl, r⟩)
  | _, _, i + 1, _, .cons _ t, e => by
    obtain ⟨v, h1, h2⟩ := RDs.get (i := i) t (by simpa using e)
    exact ⟨v, by simpa using h1, h2⟩
theorem RDs.getV : ∀ {ds : List D} {vs : List V} {i : Nat} {v : V}, RDs K J H ds vs → vs[i]? = some v → ∃ d, ds[i]? = some d ∧ RD K J H d v
  | _, _, _, _, .nil, e => (by simp at e)
  | _, _, 0, _, .cons r _, e => (by simp at e; subst e; exact ⟨_, rfl, r⟩)
  | _, _, i + 1, _, .cons _ t, e => by
    obtain ⟨v, h1, h2⟩ := RDs.getV (i := i) t (by simpa using e)
    exact ⟨v, by simpa using h1, h2⟩
theorem RDs.append : ∀ {ds es : List D} {vs ws : List V}, RDs K J H ds vs → RDs K J H es ws → RDs K J H (ds ++ es) (vs ++ ws)
  | _, _, _, _, .nil, s => s
  | _, _, _, _, .cons r t, s => .cons r (RDs.append t s)
theorem RDs.take : ∀ {ds : List D} {vs : List V} (n : Nat), RDs K J H ds vs → RDs K J H (ds.take n) (vs.take n)
  | _, _, 0, _ => by simp; exact .nil
  | _, _, _ + 1, .nil => .nil
  | _, _, n + 1, .cons r t => .cons r (RDs.take n t)
theorem RDs.drop : ∀ {ds : List D} {vs : List V} (n : Nat), RDs K J H ds vs → RDs K J H (ds.drop n) (vs.drop n)
  | _, _, 0, r => r
  | _, _, _ + 1, .nil => .nil
  | _, _, n + 1, .cons _ t => RDs.drop n t
theorem RDs.set : ∀ {ds : List D} {vs : List V} (i : Nat) {d : D} {v : V}, RD K J H d v → RDs K J H ds vs → RDs K J H (ds.set i d) (vs.set i v)
  | _, _, _, _, _, _, .nil => .nil
  | _, _, 0, _, _, r, .cons _ t => .cons r t
  | _, _, i + 1, _, _, r, .cons q t => .cons q (RDs.set i r t)
theorem RDs.eraseIdx : ∀ {ds : List D} {vs : List V} (i : Nat), RDs K J H ds vs → RDs K J H (ds.eraseIdx i) (vs.eraseIdx i)
  | _, _, _, .nil => .nil
  | _, _, 0, .cons _ t => t
  | _, _, i + 1, .cons q t => .cons q (RDs.eraseIdx i t)
theorem RDs.dropLast (r : RDs K J H ds vs) : RDs K J H ds.dropLast vs.dropLast := by
  rw [List.dropLast_eq_take, List.dropLast_eq_take, r.length]
  exact r.take _
theorem RDs.replicate (r : RDs K J H ds vs) : ∀ n : Nat, RDs K J H (List.replicate n ds).flatten (List.replicate n vs).flatten
  | 0 => .nil
  | n + 1 => by
    (rw [List.replicate_succ, List.replicate_succ, List.flatten_cons, List.flatten_cons])
    exact r.append (RDs.replicate r n)

theorem Ext.refl : Ext J H J H := ⟨rfl, ⟨[], by simp, by simp⟩, fun _ _ _ e => e⟩
theorem Ext.notin (e : Ext J H J' H') {a : Addr} {o : HO} (n : a ∉ J.l) (q : H a = some o) : a ∉ J'.l := by
  obtain ⟨m, hm, f⟩ := e.pre
  rw [hm]
  intro hm
  rcases List.mem_append.mp hm with z | z
  · exact n z
  · rw [f a z] at q; cases q
theorem Ext.get (e : Ext J H J' H') {i : Nat} {a : Addr} (q : J.l[i]? = some a) : J'.l[i]? = some a := by
  obtain ⟨m, hm, _⟩ := e.pre
  have hl : i < J.l.length := (List.getElem?_eq_some_iff.mp q).1
  rw [hm, List.getElem?_append_left hl]; exact q
mutual
theorem RD.ext (e : Ext J H J' H') : ∀ {d : D} {v : V}, RD K J H d v → RD K J' H' d v
  | _, _, .non => .non
  | _, _, .bl b => .bl b
  | _, _, .int i => .int i
  | _, _, .str x => .str x
  | _, _, .tup n m q z r => .tup (e.notin n q) (by rw [e.z]; exact m) (e.keep _ _ n q) z (RDs.ext e r)
  | _, _, .ktup k z r => .ktup k z (RDs.ext e r)
  | _, _, .lst n m q z r => .lst (e.notin n q) (by rw [e.z]; exact m) (e.keep _ _ n q) z (RDs.ext e r)
  | _, _, .ref q => .ref (e.get q)
  | _, _, .fz n m q z r => .fz (e.notin n q) (by rw [e.z]; exact m) (e.keep _ _ n q) z (RDs.ext e r)
  | _, _, .kfz k z r => .kfz k z (RDs.ext e r)
  | _, _, .ft n m q c d z r => .ft (e.notin n q) (by rw [e.z]; exact m) (e.keep _ _ n q) c d z (RDs.ext e r)
theorem RDs.ext (e : Ext J H J' H') : ∀ {ds : List D} {vs : List V}, RDs K J H ds vs → RDs K J' H' ds vs
  | _, _, .nil => .nil
  | _, _, .cons r t => .cons (RD.ext e r) (RDs.ext e t)
end
theorem RO.ext (e : Ext J H J' H') {o : O} {u : HO} (r : RO K J H o u) : RO K J' H' o u := by
  cases r with
  | lst z r => exact .lst z (r.ext e)
  | dct z r => exact .dct z (Paired.mapP r fun p q x => ⟨x.1, x.2.ext e⟩)
/-- the same data under other sets of addresses -/
structure Sub (J : Jn) (H : Hp) (J' : Jn) (H' : Hp) : Prop where
  l : ∀ a o, a ∉ J.l → a ∉ J.z → H a = some o → a ∉ J'.l ∧ a ∉ J'.z ∧ H' a = some o
  get : ∀ (i : Nat) a, J.l[i]? = some a → J'.l[i]? = some a
mutual
theorem RD.sub (e : Sub J H J' H') : ∀ {d : D} {v : V}, RD K J H d v → RD K J' H' d v
  | _, _, .non => .non
  | _, _, .bl b => .bl b
  | _, _, .int i => .int i
  | _, _, .str x => .str x
  | _, _, .tup n m q z r => .tup (e.l _ _ n m q).1 (e.l _ _ n m q).2.1 (e.l _ _ n m q).2.2 z (RDs.sub e r)
  | _, _, .ktup k z r => .ktup k z (RDs.sub e r)
  | _, _, .lst n m q z r => .lst (e.l _ _ n m q).1 (e.l _ _ n m q).2.1 (e.l _ _ n m q).2.2 z (RDs.sub e r)
  | _, _, .ref q => .ref (e.get _ _ q)
  | _, _, .fz n m q z r => .fz (e.l _ _ n m q).1 (e.l _ _ n m q).2.1 (e.l _ _ n m q).2.2 z (RDs.sub e r)
  | _, _, .kfz k z r => .kfz k z (RDs.sub e r)
  | _, _, .ft n m q c d z r => .ft (e.l _ _ n m q).1 (e.l _ _ n m q).2.1 (e.l _ _ n m q).2.2 c d z (RDs.sub e r)
theorem RDs.sub (e : Sub J H J' H') : ∀ {ds : List D} {vs : List V}, RDs K J H ds vs → RDs K J' H' ds vs
  | _, _, .nil => .nil
  | _, _, .cons r t => .cons (RD.sub e r) (RDs.sub e t)
end
theorem RO.sub (e : Sub J H J' H') {o : O} {u : HO} (r : RO K J H o u) : RO K J' H' o u := by
  cases r with
  | lst z r => exact .lst z (r.sub e)
  | dct z r => exact .dct z (Paired.mapP r fun p q x => ⟨x.1, x.2.sub e⟩)
theorem RH.at (r : RH K J h H) {i : Nat} {a : Addr} (q : J.l[i]? = some a) : ∃ o u, h[i]? = some o ∧ H a = some u ∧ RO K J H o u := by
  have hl : i < h.length := by rw [← r.len]; exact (List.getElem?_eq_some_iff.mp q).1
  obtain ⟨a', u, h1, h2, h3⟩ := r.obj i h[i] (List.getElem?_eq_getElem hl)
  rw [q] at h1; cases h1
  exact ⟨_, u, List.getElem?_eq_getElem hl, h2, h3⟩
theorem RH.inl (r : RH K J h H) {a : Addr} (hm : a ∈ J.l) : ∃ u, H a = some u := by
  obtain ⟨i, hi⟩ := List.mem_iff_getElem?.mp hm
  obtain ⟨o, u, _, h2, _⟩ := r.at hi
  exact ⟨u, h2⟩
theorem RH.notin (r : RH K J h H) {a : Addr} (q : H a = none) : a ∉ J.l := fun hm => by
  obtain ⟨u, h2⟩ := r.inl hm
  rw [q] at h2; cases h2
theorem RH.notz (r : RH K J h H) {a : Addr} (q : H a = none) : a ∉ J.z := fun hm => r.zed a hm q
theorem Ext.trans (r : RH K J h H) (r1 : RH K J' h' H') (e : Ext J H J' H') (e2 : Ext J' H' J2 H2) : Ext J H J2 H2 := by
  obtain ⟨m, hm, f⟩ := e.pre
  obtain ⟨m2, hm2, f2⟩ := e2.pre
  refine ⟨e2.z.trans e.z, ⟨m ++ m2, by rw [hm2, hm, List.append_assoc], fun a ha => ?_⟩, fun a o n q => e2.keep a o (e.notin n q) (e.keep a o n q)⟩
  rcases List.mem_append.mp ha with z | z
  · exact f a z
  · cases q : H a with
    | none => rfl
    | some u =>
      exfalso
      by_cases n : a ∈ J.l
      · obtain ⟨u', h2⟩ := r1.inl (a := a) (by rw [hm]; exact List.mem_append_left _ n)
        rw [f2 a z] at h2; cases h2
      · have := e.keep a u n q
        rw [f2 a z] at this; cases this
/-- a new thing that no object holds -/
theorem Ext.laid {p : Addr} {o : HO} (n : H p = none) : Ext J H J (upd H p o) :=
  ⟨rfl, ⟨[], by simp, by simp⟩, fun a u _ q => by rw [upd_ne (ne_of_none q n)]; exact q⟩
theorem RH.laid {p : Addr} {o : HO} (r : RH K J h H) (n : H p = none) : RH K J h (upd H p o) :=
  ⟨r.nd, r.len, fun i ob e => by
    obtain ⟨a, u, h1, h2, h3⟩ := r.obj i ob e
    exact ⟨a, u, h1, by rw [upd_ne (ne_of_none h2 n)]; exact h2, h3.ext (Ext.laid n)⟩, r.apart, fun a ha => by
    by_cases z : a = p
    · subst z; rw [upd_same]; simp
    · rw [upd_ne z]; exact r.zed a ha⟩
/-- a new thing, hidden -/
abbrev Jn.hide (J : Jn) (p : Addr) : Jn := ⟨J.l, p :: J.z⟩
abbrev Jn.own (J : Jn) (p : Addr) : Jn := ⟨J.l ++ [p], J.z⟩
theorem Sub.hide {p : Addr} (n : H p = none) : Sub J H (J.hide p) H :=
  ⟨fun a o x y q => ⟨x, fun hm => (List.mem_cons.mp hm).elim (fun z => by subst z; rw [n] at q; cases q) y, q⟩, fun _ _ q => q⟩
theorem RH.hide {p : Addr} {o : HO} (r : RH K J h H) (n : H p = none) : RH K (J.hide p) h (upd H p o) := by
  have r2 := r.laid (o := o) n
  refine ⟨r.nd, r.len, fun i ob e => ?_, fun a ha => ?_, fun a ha => ?_⟩
  · obtain ⟨a, u, h1, h2, h3⟩ := r.obj i ob e
    exact ⟨a, u, h1, by rw [upd_ne (ne_of_none h2 n)]; exact h2, (h3.sub (Sub.hide n)).ext (Ext.laid n)⟩
  · rcases List.mem_cons.mp ha with z | z
    · subst z; exact r.notin n
    · exact r.apart a z
  · rcases List.mem_cons.mp ha with z | z
    · subst z; rw [upd_same]; simp
    · exact r2.zed a z
/-- a hidden thing is shown -/
theorem Sub.show_ {p : Addr} : Sub (J.hide p) H J H := ⟨fun a o x y q => ⟨x, fun hm => y (List.mem_cons_of_mem _ hm), q⟩, fun _ _ q => q⟩
theorem RH.show_ {p : Addr} (r : RH K (J.hide p) h H) : RH K J h H :=
  ⟨r.nd, r.len, fun i ob e => let ⟨a, u, h1, h2, h3⟩ := r.obj i ob e; ⟨a, u, h1, h2, h3.sub Sub.show_⟩, fun a ha => r.apart a (List.mem_cons_of_mem _ ha), fun a ha => r.zed a (List.mem_cons_of_mem _ ha)⟩
/-- .. becomes an object -/
theorem Sub.own {p : Addr} : Sub (J.hide p) H (J.own p) H :=
  ⟨fun a o x y q => ⟨fun hm => (List.mem_append.mp hm).elim x fun z => y (by simp at z; subst z; exact List.mem_cons_self), fun hm => y (List.mem_cons_of_mem _ hm), q⟩,
   fun i a q => by show (J.l ++ [p])[i]? = _; rw [List.getElem?_append_left (List.getElem?_eq_some_iff.mp q).1]; exact q⟩
theorem RH.own {p : Addr} {o : O} {u : HO} (r : RH K (J.hide p) h H) (np : p ∉ J.z) (q : H p = some u) (ro : RO K (J.hide p) H o u) : RH K (J.own p) (h ++ [o]) H := by
  have n : p ∉ J.l := r.apart p List.mem_cons_self
  refine ⟨?_, by show (J.l ++ [p]).length = _; rw [List.length_append, List.length_append, r.len]; rfl, fun i ob e => ?_, fun a ha hm => ?_, fun a ha => r.zed a (List.mem_cons_of_mem _ ha)⟩
  · show (J.l ++ [p]).Nodup
    exact List.nodup_append.mpr ⟨r.nd, by simp, fun a ha b hb => by simp at hb; rw [hb]; rintro rfl; exact n ha⟩
  · have hll : J.l.length = h.length := r.len
    by_cases hi : i < h.length
    · rw [List.getElem?_append_left hi] at e
      obtain ⟨a, w, h1, h2, h3⟩ := r.obj i ob e
      have h1 : J.l[i]? = some a := h1
      exact ⟨a, w, by show (J.l ++ [p])[i]? = _; rw [List.getElem?_append_left (by omega)]; exact h1, h2, h3.sub Sub.own⟩
    · have hi2 : i = h.length := by
        have := (List.getElem?_eq_some_iff.mp e).1
        simp at this; omega
      subst hi2
      rw [List.getElem?_append_right (Nat.le_refl _)] at e
      simp at e; subst e
      exact ⟨p, u, by show (J.l ++ [p])[_]? = _; rw [← hll, List.getElem?_append_right (Nat.le_refl _)]; simp, q, ro.sub Sub.own⟩
  · rcases List.mem_append.mp hm with z | z
    · exact r.apart a (List.mem_cons_of_mem _ ha) z
    · simp at z; subst z; exact np ha
theorem Ext.own {p : Addr} (n : H p = none) (e : Ext J H J' H') : Ext J H (J'.own p) H' := by
  obtain ⟨m, hm, f⟩ := e.pre
  refine ⟨e.z, ⟨m ++ [p], by show J'.l ++ [p] = _; rw [hm, List.append_assoc], fun a ha => ?_⟩, e.keep⟩
  rcases List.mem_append.mp ha with z | z
  · exact f a z
  · simp at z; rw [z]; exact n
/-- a hidden thing is written -/
theorem Sub.writeZ {p : Addr} {u : HO} (hp : p ∈ J.z) : Sub J H J (upd H p u) :=
  ⟨fun a o x y q => ⟨x, y, by rw [upd_ne (show a ≠ p by rintro rfl; exact y hp)]; exact q⟩, fun _ _ q => q⟩
theorem RH.writeZ {p : Addr} {u : HO} (r : RH K J h H) (hp : p ∈ J.z) : RH K J h (upd H p u) :=
  ⟨r.nd, r.len, fun i ob e => by
    obtain ⟨a, w, h1, h2, h3⟩ := r.obj i ob e
    refine ⟨a, w, h1, ?_, h3.sub (Sub.writeZ hp)⟩
    rw [upd_ne]; exact h2
    rintro rfl; exact r.apart _ hp (List.mem_of_getElem? h1), r.apart, fun a ha => by
    by_cases z : a = p
    · subst z; rw [upd_same]; simp
    · rw [upd_ne z]; exact r.zed a ha⟩
/-- an object written -/
theorem Ext.write {i : Nat} {a : Addr} {u : HO} (q : J.l[i]? = some a) : Ext J H J (upd H a u) :=
  ⟨rfl, ⟨[], by simp, by simp⟩, fun b o n e => by rw [upd_ne]; exact e; rintro rfl; exact n (List.mem_of_getElem? q)⟩
theorem RH.write {i : Nat} {a : Addr} {o : O} {u : HO} (r : RH K J h H) (q : J.l[i]? = some a) (ro : RO K J (upd H a u) o u) : RH K J (h.set i o) (upd H a u) := by
  refine ⟨r.nd, by simp [r.len], fun j ob e => ?_, r.apart, fun b hb => ?_⟩
  · by_cases hj : i = j
    · subst hj
      have hl : i < h.length := by rw [← r.len]; exact (List.getElem?_eq_some_iff.mp q).1
      rw [List.getElem?_set_self hl] at e; cases e
      exact ⟨a, u, q, upd_same, ro⟩
    · rw [List.getElem?_set_ne hj] at e
      obtain ⟨b, w, h1, h2, h3⟩ := r.obj j ob e
      have nb : b ≠ a := by
        rintro rfl
        obtain ⟨l1, e1⟩ := List.getElem?_eq_some_iff.mp q
        obtain ⟨l2, e2⟩ := List.getElem?_eq_some_iff.mp h1
        exact hj ((List.getElem_inj r.nd).mp (e1.trans e2.symm))
      exact ⟨b, w, h1, by rw [upd_ne nb]; exact h2, h3.ext (Ext.write q)⟩
  · rw [upd_ne]; exact r.zed b hb
    rintro rfl; exact r.apart _ hb (List.mem_of_getElem? q)

/-! ### the names -/
structure RE (K : PySem.W.Frag) (J : Jn) (H : Hp) (ρ : Env) (σ : L2.St) : Prop where
  len : ρ.length = σ.length
  get : ∀ (i : Nat) (d : D), ρ[i]? = some (some d) → ∃ v, σ[i]? = some (some v) ∧ RD K J H d v
variable {ρ : Env} {σ : L2.St}
theorem RE.ext (r : RE K J H ρ σ) (e : Ext J H J' H') : RE K J' H' ρ σ := ⟨r.len, fun i d q => let ⟨v, a, b⟩ := r.get i d q; ⟨v, a, b.ext e⟩⟩
theorem RE.set (r : RE K J H ρ σ) (i : Nat) {d : D} {v : V} (x : RD K J H d v) : RE K J H (ρ.set i (some d)) (σ.set i (some v)) := by
  refine ⟨by simp [r.len], fun j e q => ?_⟩
  by_cases hj : i = j
  · subst hj
    have hl : i < ρ.length := by
      have := (List.getElem?_eq_some_iff.mp q).1
      simpa using this
    rw [List.getElem?_set_self hl] at q
    cases q
    exact ⟨v, by rw [List.getElem?_set_self (by rw [← r.len]; exact hl)], x⟩
  · rw [List.getElem?_set_ne hj] at q
    obtain ⟨w, a, b⟩ := r.get j e q
    exact ⟨w, by rw [List.getElem?_set_ne hj]; exact a, b⟩
theorem RE.lose (r : RE K J H ρ σ) (i : Nat) : RE K J H (ρ.set i none) σ := by
  refine ⟨by simp [r.len], fun j e q => ?_⟩
  by_cases hj : i = j
  · subst hj
    by_cases hl : i < ρ.length
    · rw [List.getElem?_set_self hl] at q; cases q
    · rw [List.getElem?_eq_none (by simpa using hl)] at q; cases q
  · rw [List.getElem?_set_ne hj] at q
    exact r.get j e q
end

/-! ### what is wanted behind a piece -/
abbrev RelA (α β : Type) := Jn → Hp → α → β → Prop
def Post (K : PySem.W.Frag) {α β : Type} (J : Jn) (H : Hp) (Rl : RelA α β) (r : R α) (Q : β → Hp → Prop) : Prop := match r with
  | .ok a h' => ∀ J' H' b, Ext J H J' H' → RH K J' h' H' → Rl J' H' a b → Q b H'
  | _ => False
/-- an exception, as it is told -/
def RX (mg : Str → Option Value) (x : Xc) (cls : Value) (d : Option Addr) : Prop := (∃ C, cls = .ref C ∧ mg x.cls = some (.ref C)) ∧ d = none
/-- behind a def, that may let one out -/
def PostX (K : PySem.W.Frag) (mg : Str → Option Value) (E : XK) {α β : Type} (J : Jn) (H : Hp) (Rl : RelA α β) (r : R α) (Q : β → Hp → Prop) : Prop := match r with
  | .ok a h' => ∀ J' H' b, Ext J H J' H' → RH K J' h' H' → Rl J' H' a b → Q b H'
  | .err x h' => ∀ J' H' cls d, Ext J H J' H' → RH K J' h' H' → RX mg x cls d → E cls d H'
  | .bad => False
theorem Post.x {K : PySem.W.Frag} {mg : Str → Option Value} {E : XK} {α β : Type} {J : Jn} {H : Hp} {Rl : RelA α β} {r : R α} {Q : β → Hp → Prop} (p : Post K J H Rl r Q) : PostX K mg E J H Rl r Q := by
  cases r with
  | ok a h => exact p
  | err x h => exact False.elim p
  | bad => exact p
theorem PostX.ext {K : PySem.W.Frag} {mg : Str → Option Value} {E : XK} {α β : Type} {J J' : Jn} {H H' : Hp} {h h' : Hh} {Rl : RelA α β} {r : R α} {Q : β → Hp → Prop} (rh : RH K J h H) (rh' : RH K J' h' H') (e : Ext J H J' H') (p : PostX K mg E J H Rl r Q) : PostX K mg E J' H' Rl r Q := by
  cases r with
  | ok a h2 => exact fun J2 H2 b e2 rh2 rl => p J2 H2 b (e.trans rh rh' e2) rh2 rl
  | err x h2 => exact fun J2 H2 c d e2 rh2 rx => p J2 H2 c d (e.trans rh rh' e2) rh2 rx
  | bad => exact p
section
variable {K : PySem.W.Frag} {J J' : Jn} {H H' : Hp} {h h' : Hh} {ρ : Env} {σ : L2.St} {α β γ δ : Type}
theorem Post.mono {Rl : RelA α β} {r : R α} {Q Q' : β → Hp → Prop} (p : Post K J H Rl r Q) (f : ∀ b H', Q b H' → Q' b H') : Post K J H Rl r Q' := by
  cases r with
  | ok a h' => exact fun J' H' b e rh rl => f _ _ (p J' H' b e rh rl)
  | bad => exact p
  | err _ _ => exact p
theorem Post.ext {Rl : RelA α β} {r : R α} {Q : β → Hp → Prop} (rh : RH K J h H) (rh' : RH K J' h' H') (e : Ext J H J' H') (p : Post K J H Rl r Q) : Post K J' H' Rl r Q := by
  cases r with
  | ok a h2 => exact fun J2 H2 b e2 rh2 rl => p J2 H2 b (e.trans rh rh' e2) rh2 rl
  | bad => exact p
  | err _ _ => exact p
/-- a reading by an evaluator's function -/
def tG (K : PySem.W.Frag) (Rl : RelA α β) (f : Env → Hh → R α) : L2.St → Hp → (β → Hp → Prop) → Prop := fun σ H Q => ∃ ρ h J, RE K J H ρ σ ∧ RH K J h H ∧ Post K J H Rl (f ρ h) Q
abbrev rD (K : PySem.W.Frag) : RelA D V := RD K
abbrev rDs (K : PySem.W.Frag) : RelA (List D) (List V) := RDs K
abbrev rB : RelA Bool Bool := fun _ _ a b => a = b
/-- step by step -/
theorem Post.step {R1 : RelA α β} {R2 : RelA γ δ} {f : Env → Hh → R α} {g : α → Hh → R γ} {Q : δ → Hp → Prop} (re : RE K J H ρ σ) (rh : RH K J h H) (p : Post K J H R2 ((f ρ h).bind g) Q) :
    tG K R1 f σ H (fun b H1 => ∃ J1 h1 a, Ext J H J1 H1 ∧ RE K J1 H1 ρ σ ∧ RH K J1 h1 H1 ∧ R1 J1 H1 a b ∧ Post K J1 H1 R2 (g a h1) Q) := by
  refine ⟨ρ, h, J, re, rh, ?_⟩
  cases q : f ρ h with
  | ok a h1 =>
    rw [q] at p
    exact fun J1 H1 b e rh1 rl => ⟨J1, h1, a, e, re.ext e, rh1, rl, Post.ext rh rh1 e p⟩
  | bad => rw [q] at p; exact p
  | err _ _ => rw [q] at p; exact p
theorem Post.opt {Rl : RelA α β} {o : Option α} {Q : β → Hp → Prop} (rh : RH K J h H) (p : Post K J H Rl (R.opt o h) Q) : ∃ a, o = some a ∧ ∀ b, Rl J H a b → Q b H := by
  cases o with
  | none => exact False.elim p
  | some a => exact ⟨a, rfl, fun b rl => p J H b Ext.refl rh rl⟩
/-- .. with a further thing laid -/
theorem Post.optX {Rl : RelA α β} {o : Option α} {Q : β → Hp → Prop} (p : Post K J H Rl (R.opt o h) Q) : ∃ a, o = some a ∧ ∀ J' H' b, Ext J H J' H' → RH K J' h H' → Rl J' H' a b → Q b H' := by
  cases o with
  | none => exact False.elim p
  | some a => exact ⟨a, rfl, p⟩
theorem tG.mono {Rl : RelA α β} {f : Env → Hh → R α} {Q Q' : β → Hp → Prop} (p : tG K Rl f σ H Q) (m : ∀ b H', Q b H' → Q' b H') : tG K Rl f σ H Q' :=
  let ⟨ρ, h, J, re, rh, q⟩ := p; ⟨ρ, h, J, re, rh, q.mono m⟩
end
theorem _root_.L2.PE.imp {X : Cx} {e : Expr} {t t' : TE} (h : PE X e t) (i : ∀ σ H Q, t' σ H Q → t σ H Q) : PE X e t' := ⟨fun p s σ H Q I q => h.run p s σ H Q I (i σ H Q q)⟩
theorem _root_.L2.PT.imp {X : Cx} {e : Expr} {t t' : TT} (h : PT X e t) (i : ∀ σ H Q, t' σ H Q → t σ H Q) : PT X e t' := ⟨fun p s σ H Q I q => h.run p s σ H Q I (i σ H Q q)⟩
theorem _root_.L2.PW.imp {X : Cx} {e : Expr} {t t' : TT} (h : PW X e t) (i : ∀ σ H Q, t' σ H Q → t σ H Q) : PW X e t' := ⟨fun w p s σ H Q I q => h.run w p s σ H Q I (i σ H Q q)⟩
theorem _root_.L2.PA.imp {X : Cx} {es : List Expr} {t t' : TA} (h : PA X es t) (i : ∀ σ H Q, t' σ H Q → t σ H Q) : PA X es t' := ⟨fun w p s σ H Q I q => h.run w p s σ H Q I (i σ H Q q)⟩
theorem _root_.L2.PI.imp {X : Cx} {tg e : Expr} {t t' : TI} (h : PI X tg e t) (i : ∀ σ H Q, t' σ H Q → t σ H Q) : PI X tg e t' := ⟨fun p s σ H Q I q => h.run p s σ H Q I (i σ H Q q)⟩
theorem _root_.L2.PG.imp {X : Cx} {e : Expr} {t t' : TG} (h : PG X e t) (i : ∀ v σ H Q, t' v σ H Q → t v σ H Q) : PG X e t' := ⟨fun p s σ H v u Q I r q => h.run p s σ H v u Q I r (i v σ H Q q)⟩
theorem _root_.L2.PS.imp {X : Cx} {e : Stmt} {t t' : TS} (h : PS X e t) (i : ∀ D σ H, t' D σ H → t D σ H) : PS X e t' := ⟨fun p s σ H D I q => h.run p s σ H D I (i D σ H q)⟩
theorem _root_.L2.PSs.imp {X : Cx} {e : List Stmt} {t t' : TS} (h : PSs X e t) (i : ∀ D σ H, t' D σ H → t D σ H) : PSs X e t' := ⟨fun p s σ H D I q => h.run p s σ H D I (i D σ H q)⟩
end PV
end

section
set_option maxRecDepth 100000
namespace PV
open L2 PySem PySem.Spec PyProof.Rows

/-! ### what a value is, by its data -/
section
variable {K : PySem.W.Frag} {J J' : Jn} {H H' : Hp} {h h' : Hh} {d : D} {v : V} {ds : List D} {vs : List V}
theorem size_of {n : Nat} (h : sizeOk n = true) : n ≤ sizeLine := by rw [sizeLine_eq]; exact of_decide_eq_true h
theorem RD.int_inv {i : Int} (r : RD K J H (.int i) v) : v = .int i := by cases r; rfl
theorem RD.bl_inv {b : Bool} (r : RD K J H (.bl b) v) : v = .bl b := by cases r; rfl
theorem RD.str_inv {x : Str} (r : RD K J H (.str x) v) : v = .str x := by cases r; rfl
theorem RD.tup_inv (r : RD K J H (.tup ds) v) : ∃ a vs, v = .ref a ∧ SqT K H a vs ∧ vs.length ≤ sizeLine ∧ RDs K J H ds vs := by
  cases r with
  | tup n m q z r => exact ⟨_, _, rfl, .inl (.inl q), z, r⟩
  | ktup k z r => exact ⟨_, _, rfl, .inr k, z, r⟩
theorem RD.ft_inv (r : RD K J H (.ftup ds) v) : ∃ a vs, v = .ref a ∧ SqT K H a vs ∧ vs.length ≤ sizeLine ∧ RDs K J H ds vs := by
  cases r with
  | ft n m q c d z r => exact ⟨_, _, rfl, .inl (.inr ⟨_, q⟩), z, r⟩
theorem own_inv (rh : RH K J h H) (e : d.own h = some ds) (r : RD K J H d v) : ∃ a vs, v = .ref a ∧ H a = some (.lst vs) ∧ vs.length ≤ sizeLine ∧ RDs K J H ds vs := by
  cases d with
  | lst xs =>
    cases r with
    | lst n m q z r => cases e; exact ⟨_, _, rfl, q, z, r⟩
  | ref i =>
    cases r with
    | ref q =>
      obtain ⟨o, u, h1, h2, h3⟩ := rh.at q
      simp only [D.own, h1] at e
      cases h3 with
      | lst z r => cases e; exact ⟨_, _, rfl, h2, z, r⟩
      | dct z r => cases e
  | _ => cases e
theorem seq_inv (rh : RH K J h H) (e : d.seq h = some ds) (r : RD K J H d v) : ∃ a vs, v = .ref a ∧ (SqL K H a vs ∨ SqT K H a vs) ∧ vs.length ≤ sizeLine ∧ RDs K J H ds vs := by
  cases d with
  | tup xs =>
    cases e
    obtain ⟨a, vs, e1, e2, e3, e4⟩ := r.tup_inv
    exact ⟨a, vs, e1, .inr e2, e3, e4⟩
  | lst xs =>
    cases r with
    | lst n m q z r => cases e; exact ⟨_, _, rfl, .inl (.inl (.inl q)), z, r⟩
  | fz xs =>
    cases r with
    | fz n m q z r => cases e; exact ⟨_, _, rfl, .inl (.inl (.inr ⟨_, q⟩)), z, r⟩
    | kfz k z r => cases e; exact ⟨_, _, rfl, .inl (.inr k), z, r⟩
  | ftup xs =>
    cases r with
    | ft n m q c d z r => cases e; exact ⟨_, _, rfl, .inr (.inl (.inr ⟨_, q⟩)), z, r⟩
  | ref i =>
    cases r with
    | ref q =>
      obtain ⟨o, u, h1, h2, h3⟩ := rh.at q
      simp only [D.seq, h1] at e
      cases h3 with
      | lst z r => cases e; exact ⟨_, _, rfl, .inl (.inl (.inl h2)), z, r⟩
      | dct z r => cases e
  | _ => cases e
/-- a list as it stands -/
theorem res_inv (rh : RH K J h H) (e : d.res h = .lst ds) (r : RD K J H d v) : ∃ a vs, v = .ref a ∧ SqL K H a vs ∧ vs.length ≤ sizeLine ∧ RDs K J H ds vs := by
  cases d with
  | lst xs =>
    cases r with
    | lst n m q z r => cases e; exact ⟨_, _, rfl, .inl (.inl q), z, r⟩
  | fz xs =>
    cases r with
    | fz n m q z r => cases e; exact ⟨_, _, rfl, .inl (.inr ⟨_, q⟩), z, r⟩
    | kfz k z r => cases e; exact ⟨_, _, rfl, .inr k, z, r⟩
  | ref i =>
    cases r with
    | ref q =>
      obtain ⟨o, u, h1, h2, h3⟩ := rh.at q
      simp only [D.res, h1] at e
      cases h3 with
      | lst z r => cases e; exact ⟨_, _, rfl, .inl (.inl h2), z, r⟩
      | dct z r => cases e
  | _ => cases e
theorem res_else {e : D} (h1 : d.res h = e) (h2 : ∀ xs, e ≠ .lst xs) : e = d := by
  cases d with
  | ref i =>
    simp only [D.res] at h1
    split at h1
    · exact absurd h1.symm (h2 _)
    · exact h1.symm
  | fz xs => exact absurd h1.symm (h2 _)
  | _ => exact h1.symm
theorem RD.newTup {p : Addr} (rh : RH K J h H) (n : H p = none) (r : RDs K J H ds vs) (z : vs.length ≤ sizeLine) : RD K J (upd H p (.tup vs)) (.tup ds) (.ref p) :=
  .tup (rh.notin n) (rh.notz n) upd_same z (r.ext (Ext.laid n))
theorem RD.newLst {p : Addr} (rh : RH K J h H) (n : H p = none) (r : RDs K J H ds vs) (z : vs.length ≤ sizeLine) : RD K J (upd H p (.lst vs)) (.lst ds) (.ref p) :=
  .lst (rh.notin n) (rh.notz n) upd_same z (r.ext (Ext.laid n))
end

/-! ### data as the library's data -/
mutual
theorem lay_py : ∀ d : D, d.lay = true → d.py.canLay0 = true
  | .non, _ => by simp only [D.py, PyData.canLay0]
  | .bl _, _ => by simp only [D.py, PyData.canLay0]
  | .int _, _ => by simp only [D.py, PyData.canLay0]
  | .str x, h => by simpa only [D.py, PyData.canLay0, D.lay] using h
  | .tup xs, h => by simp only [D.py, PyData.canLay0]; exact lays_pys xs (by simpa only [D.lay] using h)
  | .lst xs, h => by simp only [D.py, PyData.canLay0]; exact lays_pys xs (by simpa only [D.lay] using h)
  | .ref _, h => by simp [D.lay] at h
  | .fz _, h => by simp [D.lay] at h
  | .ftup _, h => by simp [D.lay] at h
theorem lays_pys : ∀ xs : List D, D.lays xs = true → PyData.canLayAll0 (D.pys xs) = true
  | [], _ => by simp only [D.pys, PyData.canLayAll0]
  | x :: xs, h => by
    simp only [D.lays, Bool.and_eq_true] at h
    simp only [D.pys, PyData.canLayAll0, lay_py x h.1, lays_pys xs h.2, Bool.and_self]
end
mutual
theorem dep_py : ∀ d : D, d.lay = true → d.py.depth = d.dep
  | .non, _ => by simp only [D.py, PyData.depth, D.dep]
  | .bl _, _ => by simp only [D.py, PyData.depth, D.dep]
  | .int _, _ => by simp only [D.py, PyData.depth, D.dep]
  | .str x, h => by simp only [D.py, PyData.depth, D.dep]
  | .tup xs, h => by simp only [D.py, PyData.depth, D.dep]; rw [deps_pys xs (by simpa only [D.lay] using h)]
  | .lst xs, h => by simp only [D.py, PyData.depth, D.dep]; rw [deps_pys xs (by simpa only [D.lay] using h)]
  | .ref _, h => by simp [D.lay] at h
  | .fz _, h => by simp [D.lay] at h
  | .ftup _, h => by simp [D.lay] at h
theorem deps_pys : ∀ xs : List D, D.lays xs = true → PyData.depthAll (D.pys xs) = D.deps xs
  | [], _ => by simp only [D.pys, PyData.depthAll, D.deps]
  | x :: xs, h => by
    simp only [D.lays, Bool.and_eq_true] at h
    simp only [D.pys, PyData.depthAll, D.deps, dep_py x h.1, deps_pys xs h.2]
end
theorem shp_py {d : D} (h : d.shp = true) : SeqAt.shaped d.py = true := by
  simp only [D.shp, Bool.and_eq_true, decide_eq_true_eq] at h
  show (PyData.canLay0 d.py && decide (d.py.depth ≤ 64)) = true
  rw [lay_py d h.1, dep_py d h.1, decide_eq_true h.2]; rfl
theorem shp_lay {d : D} (h : d.shp = true) : d.lay = true := by
  simp only [D.shp, Bool.and_eq_true] at h
  exact h.1
theorem str_eqb (x y : Str) : (x == y) = decide (x = y) := by
  by_cases e : x = y
  · subst e; simp
  · rw [decide_eq_false e]; exact beq_eq_false_iff_ne.mpr e
mutual
theorem eqv_py : ∀ d e : D, d.lay = true → e.lay = true → PyData.eqv d.py e.py = D.eqv d e
  | .non, e, _, he => by cases e <;> first | (simp only [D.py, PyData.eqv, D.eqv]; done) | (simp [D.lay] at he; done)
  | .bl _, e, _, he => by cases e <;> first | (simp only [D.py, PyData.eqv, D.eqv]; done) | (simp [D.lay] at he; done)
  | .int _, e, _, he => by cases e <;> first | (simp only [D.py, PyData.eqv, D.eqv]; done) | (simp [D.lay] at he; done)
  | .str x, e, _, he => by cases e <;> first | (simp only [D.py, PyData.eqv, D.eqv, str_eqb]; done) | (simp [D.lay] at he; done)
  | .tup xs, e, hd, he => by
    cases e with
    | tup ys => simp only [D.py, PyData.eqv, D.eqv]; exact eqvs_pys xs ys (by simpa only [D.lay] using hd) (by simpa only [D.lay] using he)
    | ref _ => simp [D.lay] at he
    | fz _ => simp [D.lay] at he
    | ftup _ => simp [D.lay] at he
    | _ => simp only [D.py, PyData.eqv, D.eqv]
  | .lst xs, e, hd, he => by
    cases e with
    | lst ys => simp only [D.py, PyData.eqv, D.eqv]; exact eqvs_pys xs ys (by simpa only [D.lay] using hd) (by simpa only [D.lay] using he)
    | ref _ => simp [D.lay] at he
    | fz _ => simp [D.lay] at he
    | ftup _ => simp [D.lay] at he
    | _ => simp only [D.py, PyData.eqv, D.eqv]
  | .ref _, _, h, _ => by simp [D.lay] at h
  | .fz _, _, h, _ => by simp [D.lay] at h
  | .ftup _, _, h, _ => by simp [D.lay] at h
theorem eqvs_pys : ∀ xs ys : List D, D.lays xs = true → D.lays ys = true → PyData.eqvAll (D.pys xs) (D.pys ys) = D.eqvs xs ys
  | [], [], _, _ => by simp only [D.pys, PyData.eqvAll, D.eqvs]
  | [], y :: ys, _, _ => by simp only [D.pys, PyData.eqvAll, D.eqvs]
  | x :: xs, [], _, _ => by simp only [D.pys, PyData.eqvAll, D.eqvs]
  | x :: xs, (y :: ys), h, h' => by
    simp only [D.lays, Bool.and_eq_true] at h h'
    simp only [D.pys, PyData.eqvAll, D.eqvs, eqv_py x y h.1 h'.1, eqvs_pys xs ys h.2 h'.2]
end
section
variable {K : PySem.W.Frag} {J : Jn} {H : Hp} {h : Hh}
mutual
theorem RD.dp : ∀ (d : D) (v : V), d.lay = true → RD K J H d v → Dp K H v d.py
  | .non, _, _, r => by cases r; simp only [D.py]; exact .non
  | .bl b, _, _, r => by cases r; simp only [D.py]; exact .bl b
  | .int i, _, _, r => by cases r; simp only [D.py]; exact .int i
  | .str x, _, _, r => by cases r; simp only [D.py]; exact .str x
  | .tup xs, _, l, r => by
    obtain ⟨a, vs, rfl, hq, z, rs⟩ := r.tup_inv
    simp only [D.py]; exact .tup hq (RDs.dp xs vs (by simpa only [D.lay] using l) rs)
  | .lst xs, _, l, r => by
    cases r with
    | lst n m q z rs => simp only [D.py]; exact .lst (.inl (.inl q)) (RDs.dp xs _ (by simpa only [D.lay] using l) rs)
  | .ref _, _, l, _ => by simp [D.lay] at l
  | .fz _, _, l, _ => by simp [D.lay] at l
  | .ftup _, _, l, _ => by simp [D.lay] at l
theorem RDs.dp : ∀ (ds : List D) (vs : List V), D.lays ds = true → RDs K J H ds vs → DpAll K H vs (D.pys ds)
  | [], _, _, r => by cases r; simp only [D.pys]; exact .nil
  | d :: ds, _, l, r => by
    simp only [D.lays, Bool.and_eq_true] at l
    cases r with | cons a b => simp only [D.pys]; exact .cons (RD.dp d _ l.1 a) (RDs.dp ds _ l.2 b)
end
theorem res_dp {d : D} {v : V} (rh : RH K J h H) (l : (d.res h).lay = true) (r : RD K J H d v) : Dp K H v (d.res h).py := by
  cases e : d.res h with
  | lst xs =>
    obtain ⟨a, vs, rfl, hq, z, rs⟩ := res_inv rh e r
    rw [e] at l
    simp only [D.py]; exact .lst hq (RDs.dp xs vs (by simpa only [D.lay] using l) rs)
  | _ =>
    have e2 := res_else e (fun xs z => by cases z)
    rw [e] at l
    subst e2
    exact RD.dp _ v l r
end

/-! ### operators -/
def rOp (K : PySem.W.Frag) (f : Hh → D → D → Option D) : R2 := fun x y H Q => ∃ J h dx dy d, RH K J h H ∧ RD K J H dx x ∧ RD K J H dy y ∧ f h dx dy = some d ∧ ∀ J' H' v, Ext J H J' H' → RH K J' h H' → RD K J' H' d v → Q v H'
def rCmp (K : PySem.W.Frag) (f : Hh → D → D → Option Bool) : R2 := fun x y H Q => ∃ J h dx dy b, RH K J h H ∧ RD K J H dx x ∧ RD K J H dy y ∧ f h dx dy = some b ∧ Q (.bl b) H
section
variable {X : Cx}
theorem ops_add : OpR X (binaryOp .Add) (rOp X.K (opBin .add)) := by
  intro pins s σ H x y v u Q I rx ry ⟨J, h, dx, dy, d, rh, r1, r2, e, q⟩
  simp only [opBin] at e
  split at e
  · cases r1; cases r2; cases e
    exact op_add pins s σ H _ _ v u Q I rx ry ⟨_, _, rfl, rfl, q _ _ _ Ext.refl rh (.int _)⟩
  · cases r1; cases r2
    split at e
    · rename_i hz; cases e
      exact op_add_str pins s σ H _ _ v u Q I rx ry ⟨_, _, rfl, rfl, size_of hz, q _ _ _ Ext.refl rh (.str _)⟩
    · cases e
  · split at e
    · rename_i xs ys hz; cases e
      obtain ⟨a, vs, rfl, ha, za, ra⟩ := r1.tup_inv
      obtain ⟨b, ws, rfl, hb, zb, rb⟩ := r2.tup_inv
      have hlen : vs.length + ws.length ≤ sizeLine := by rw [← ra.length, ← rb.length]; exact size_of hz
      refine op_catA pins s σ H _ _ v u Q I rx ry ⟨a, b, vs, ws, rfl, rfl, ha, hb, hlen, fun e => ?_, fun _ e => ?_, fun _ _ p np => ?_⟩
      · subst e; cases ra; exact q _ _ _ Ext.refl rh (by simpa using r2)
      · subst e; cases rb; exact q _ _ _ Ext.refl rh (by simpa using r1)
      · exact q _ _ _ (Ext.laid np) (rh.laid np) (RD.newTup rh np (ra.append rb) (by rw [List.length_append]; exact hlen))
    · cases e
  · split at e
    · rename_i e1 e2
      split at e
      · rename_i hz; cases e
        obtain ⟨a, vs, rfl, ha, za, ra⟩ := own_inv rh e1 r1
        obtain ⟨b, ws, rfl, hb, zb, rb⟩ := own_inv rh e2 r2
        have hlen : vs.length + ws.length ≤ sizeLine := by rw [← ra.length, ← rb.length]; exact size_of hz
        exact op_cat pins s σ H _ _ v u Q I rx ry ⟨a, b, vs, ws, rfl, rfl, ha, hb, hlen, fun p np =>
          q _ _ _ (Ext.laid np) (rh.laid np) (RD.newLst rh np (ra.append rb) (by rw [List.length_append]; exact hlen))⟩
      · cases e
    · cases e
theorem ops_sub : OpR X (binaryOp .Sub) (rOp X.K (opBin .sub)) := by
  intro pins s σ H x y v u Q I rx ry ⟨J, h, dx, dy, d, rh, r1, r2, e, q⟩
  simp only [opBin] at e
  split at e
  · cases r1; cases r2; cases e
    exact op_sub pins s σ H _ _ v u Q I rx ry ⟨_, _, rfl, rfl, q _ _ _ Ext.refl rh (.int _)⟩
  · cases e
theorem ops_mul : OpR X (binaryOp .Mult) (rOp X.K (opBin .mul)) := by
  intro pins s σ H x y v u Q I rx ry ⟨J, h, dx, dy, d, rh, r1, r2, e, q⟩
  simp only [opBin] at e
  split at e
  · cases r1; cases r2
    split at e
    · rename_i hz; cases e
      simp only [mulOk, Bool.or_eq_true] at hz
      rcases hz with (hz | hz) | hz
      · exact op_mulW pins s σ H _ _ v u Q I rx ry ⟨_, _, rfl, rfl, (show CMulW _ _ from of_decide_eq_true (p := _ < 1000000) hz), q _ _ _ Ext.refl rh (.int _)⟩
      · exact op_mul pins s σ H _ _ v u Q I rx ry ⟨_, _, rfl, rfl, .inl (of_decide_eq_true hz), q _ _ _ Ext.refl rh (.int _)⟩
      · exact op_mul pins s σ H _ _ v u Q I rx ry ⟨_, _, rfl, rfl, .inr (of_decide_eq_true hz), q _ _ _ Ext.refl rh (.int _)⟩
    · cases e
  · rename_i xs0 j
    split at e
    · rename_i hz; cases e
      obtain ⟨z1, z2, z3, z4⟩ := hz
      cases r2
      obtain ⟨p, ws, rfl, hq, z, rr⟩ := r1.tup_inv
      have hl := rr.length
      refine PVX.op_times pins s σ H _ _ v u Q I rx ry ⟨p, _, ws, rfl, rfl, hq, fun w => z1 (List.eq_nil_of_length_eq_zero (by rw [hl, w]; rfl)), z2, z3, by rw [← hl]; exact z4, fun p np =>
          q _ _ _ (Ext.laid np) (rh.laid np) (RD.newTup rh np (rr.replicate _) ?_)⟩
      have e1 : (List.replicate j.toNat ws).flatten.length = j.toNat * ws.length := by rw [List.length_flatten]; simp
      rw [e1, ← hl, sizeLine_eq]; omega
    · cases e
  · split at e
    · rename_i e1
      split at e
      · rename_i hz
        cases e
        obtain ⟨a, vs, rfl, ha, za, ra⟩ := own_inv rh e1 r1
        cases r2
        obtain ⟨h0, h1, h2⟩ := hz
        have hlen := size_of h2
        rw [ra.length] at hlen
        refine op_rep pins s σ H _ _ v u Q I rx ry ⟨a, _, vs, rfl, rfl, ha, by omega, by omega, hlen, fun p np =>
          q _ _ _ (Ext.laid np) (rh.laid np) (RD.newLst rh np (ra.replicate _) ?_)⟩
        rw [List.length_flatten]; simp; rw [Nat.mul_comm]; exact hlen
      · cases e
    · cases e
  · cases e
theorem ops_fdiv : OpR X (binaryOp .FloorDiv) (rOp X.K (opBin .fdiv)) := by
  intro pins s σ H x y v u Q I rx ry ⟨J, h, dx, dy, d, rh, r1, r2, e, q⟩
  simp only [opBin] at e
  split at e
  · cases r1; cases r2
    split at e
    · rename_i hz; cases e
      exact op_fdivW pins s σ H _ _ v u Q I rx ry ⟨_, _, rfl, rfl, hz, q _ _ _ Ext.refl rh (.int _)⟩
    · cases e
  · cases e
theorem ops_mod : OpR X (binaryOp .Mod) (rOp X.K (opBin .mod)) := by
  intro pins s σ H x y v u Q I rx ry ⟨J, h, dx, dy, d, rh, r1, r2, e, q⟩
  simp only [opBin] at e
  split at e
  · cases r1; cases r2
    split at e
    · rename_i hz; cases e
      exact op_mod pins s σ H _ _ v u Q I rx ry ⟨_, _, rfl, rfl, hz, q _ _ _ Ext.refl rh (.int _)⟩
    · cases e
  · cases e
theorem ops_pow : OpR X (binaryOp .Pow) (rOp X.K (opBin .pow)) := by
  intro pins s σ H x y v u Q I rx ry ⟨J, h, dx, dy, d, rh, r1, r2, e, q⟩
  simp only [opBin] at e
  split at e
  · cases r1; cases r2
    split at e
    · rename_i hz; cases e
      simp only [powOk, Bool.and_eq_true, decide_eq_true_eq] at hz
      exact op_pow pins s σ H _ _ v u Q I rx ry ⟨_, _, rfl, rfl, ⟨hz.1.1, hz.1.2, hz.2⟩, q _ _ _ Ext.refl rh (.int _)⟩
    · cases e
  · cases e

/-! ### comparisons -/
theorem dec_strD {a b : Str} : decide (V.str a = V.str b) = decide (a = b) := decide_eq_decide.mpr ⟨V.str.inj, fun z => by rw [z]⟩
theorem ops_eq (hu : X.A.units + 64 < cLine) : OpR X (compareOp .Eq) (rCmp X.K (opCmp .eq)) := by
  intro pins s σ H x y v u Q I rx ry ⟨J, h, dx, dy, d, rh, r1, r2, e, q⟩
  simp only [opCmp] at e
  unfold opEq at e
  split at e
  · cases r1; cases r2; cases e
    exact op_eq pins s σ H _ _ v u Q I rx ry ⟨rfl, by rw [dec_strD]; exact q⟩
  · split at e
    · rename_i hz; cases e
      rw [Bool.and_eq_true] at hz
      have l1 := shp_lay hz.1
      have l2 := shp_lay hz.2
      exact op_eqD hu pins s σ H _ _ v u Q I rx ry ⟨_, _, res_dp rh l1 r1, res_dp rh l2 r2, shp_py hz.1, shp_py hz.2, by rw [eqv_py _ _ l1 l2]; exact q⟩
    · cases e
theorem ops_ne (hu : X.A.units + 64 < cLine) : OpR X (compareOp .NotEq) (rCmp X.K (opCmp .ne)) := by
  intro pins s σ H x y v u Q I rx ry ⟨J, h, dx, dy, d, rh, r1, r2, e, q⟩
  simp only [opCmp, Option.map_eq_some_iff] at e
  obtain ⟨d, e, rfl⟩ := e
  unfold opEq at e
  split at e
  · cases r1; cases r2; cases e
    exact op_ne pins s σ H _ _ v u Q I rx ry ⟨rfl, by rw [dec_strD]; exact q⟩
  · split at e
    · rename_i hz; cases e
      rw [Bool.and_eq_true] at hz
      have l1 := shp_lay hz.1
      have l2 := shp_lay hz.2
      exact op_neD hu pins s σ H _ _ v u Q I rx ry ⟨_, _, res_dp rh l1 r1, res_dp rh l2 r2, shp_py hz.1, shp_py hz.2, by rw [eqv_py _ _ l1 l2]; exact q⟩
    · cases e
theorem ops_lt : OpR X (compareOp .Lt) (rCmp X.K (opCmp .lt)) := by
  intro pins s σ H x y v u Q I rx ry ⟨J, h, dx, dy, d, rh, r1, r2, e, q⟩
  simp only [opCmp] at e
  split at e
  · cases r1; cases r2; cases e
    exact op_lt pins s σ H _ _ v u Q I rx ry ⟨_, _, rfl, rfl, q⟩
  · cases e
theorem ops_le : OpR X (compareOp .LtE) (rCmp X.K (opCmp .le)) := by
  intro pins s σ H x y v u Q I rx ry ⟨J, h, dx, dy, d, rh, r1, r2, e, q⟩
  simp only [opCmp] at e
  split at e
  · cases r1; cases r2; cases e
    exact op_le pins s σ H _ _ v u Q I rx ry ⟨_, _, rfl, rfl, q⟩
  · cases e
theorem ops_gt : OpR X (compareOp .Gt) (rCmp X.K (opCmp .gt)) := by
  intro pins s σ H x y v u Q I rx ry ⟨J, h, dx, dy, d, rh, r1, r2, e, q⟩
  simp only [opCmp] at e
  split at e
  · cases r1; cases r2; cases e
    exact op_gt pins s σ H _ _ v u Q I rx ry ⟨_, _, rfl, rfl, q⟩
  · cases e
theorem ops_ge : OpR X (compareOp .GtE) (rCmp X.K (opCmp .ge)) := by
  intro pins s σ H x y v u Q I rx ry ⟨J, h, dx, dy, d, rh, r1, r2, e, q⟩
  simp only [opCmp] at e
  split at e
  · cases r1; cases r2; cases e
    exact op_ge pins s σ H _ _ v u Q I rx ry ⟨_, _, rfl, rfl, q⟩
  · cases e
theorem is_blD {K : PySem.W.Frag} {J : Jn} {H : Hp} {d : D} {x : V} {v : Value} {b : Bool} {M : Model} {A : Around} {E : Value → Shared → Prop} {s : Shared} {Q : Value → Shared → Prop} (r : RD K J H d x) (rx : L2.RelV x v) (h : Q (.bool (d.eqBl b)) s) :
    wpAny M A (compareOp .Is v (.bool b)) Q E s := by
  cases r with
  | non => cases (show v = Value.none from rx); exact wpAny_pure h
  | bl a => cases (show v = Value.bool a from rx); exact is_bool h
  | int i => obtain ⟨t, rfl⟩ := (show ∃ t, v = Value.int i t from rx); exact wpAny_pure h
  | str i => obtain ⟨t, rfl⟩ := (show ∃ t, v = Value.str i t from rx); exact wpAny_pure h
  | tup n m q z r => cases (show v = Value.ref _ from rx); exact wpAny_pure h
  | ktup k z r => cases (show v = Value.ref _ from rx); exact wpAny_pure h
  | lst n m q z r => cases (show v = Value.ref _ from rx); exact wpAny_pure h
  | ref q => cases (show v = Value.ref _ from rx); exact wpAny_pure h
  | fz n m q z r => cases (show v = Value.ref _ from rx); exact wpAny_pure h
  | kfz k z r => cases (show v = Value.ref _ from rx); exact wpAny_pure h
  | ft n m q c d z r => cases (show v = Value.ref _ from rx); exact wpAny_pure h
theorem isn_blD {K : PySem.W.Frag} {J : Jn} {H : Hp} {d : D} {x : V} {v : Value} {b : Bool} {M : Model} {A : Around} {E : Value → Shared → Prop} {s : Shared} {Q : Value → Shared → Prop} (r : RD K J H d x) (rx : L2.RelV x v) (h : Q (.bool (!d.eqBl b)) s) :
    wpAny M A (compareOp .IsNot v (.bool b)) Q E s := by
  cases r with
  | non => cases (show v = Value.none from rx); exact wpAny_pure h
  | bl a => cases (show v = Value.bool a from rx); cases a <;> cases b <;> exact wpAny_pure h
  | int i => obtain ⟨t, rfl⟩ := (show ∃ t, v = Value.int i t from rx); exact wpAny_pure h
  | str i => obtain ⟨t, rfl⟩ := (show ∃ t, v = Value.str i t from rx); exact wpAny_pure h
  | tup n m q z r => cases (show v = Value.ref _ from rx); exact wpAny_pure h
  | ktup k z r => cases (show v = Value.ref _ from rx); exact wpAny_pure h
  | lst n m q z r => cases (show v = Value.ref _ from rx); exact wpAny_pure h
  | ref q => cases (show v = Value.ref _ from rx); exact wpAny_pure h
  | fz n m q z r => cases (show v = Value.ref _ from rx); exact wpAny_pure h
  | kfz k z r => cases (show v = Value.ref _ from rx); exact wpAny_pure h
  | ft n m q c d z r => cases (show v = Value.ref _ from rx); exact wpAny_pure h
theorem is_nonD {K : PySem.W.Frag} {J : Jn} {H : Hp} {d : D} {x : V} (r : RD K J H d x) : decide (x = .non) = d.isNon := by
  cases r <;> first | rfl | (exact decide_eq_false (fun z => by cases z))
theorem ops_is : OpR X (compareOp .Is) (rCmp X.K (opCmp .is)) := by
  intro pins s σ H x y v u Q I rx ry ⟨J, h, dx, dy, d, rh, r1, r2, e, q⟩
  simp only [opCmp] at e
  split at e
  · cases r2; cases e
    exact op_isN pins s σ H _ _ v u Q I rx ry ⟨rfl, by rw [is_nonD r1]; exact q⟩
  · cases r2; cases e
    cases (show u = Value.bool _ from ry)
    exact is_blD r1 rx ⟨.bl _, H, I, rfl, q⟩
  · cases e
theorem ops_isn : OpR X (compareOp .IsNot) (rCmp X.K (opCmp .isn)) := by
  intro pins s σ H x y v u Q I rx ry ⟨J, h, dx, dy, d, rh, r1, r2, e, q⟩
  simp only [opCmp] at e
  split at e
  · cases r2; cases e
    exact op_notN pins s σ H _ _ v u Q I rx ry ⟨rfl, by rw [is_nonD r1]; exact q⟩
  · cases r2; cases e
    cases (show u = Value.bool _ from ry)
    exact isn_blD r1 rx ⟨.bl _, H, I, rfl, q⟩
  · cases e
end
end PV
end

section
set_option maxRecDepth 100000
namespace PV
open L2 PySem PySem.Spec PyProof.Rows

section
variable {K : PySem.W.Frag} {J J' : Jn} {H H' : Hp} {h h' : Hh} {d : D} {v : V} {ds : List D} {vs : List V}
/-! ### dicts -/
theorem valD_rel {kvs : List (Key × D)} {kws : List (Key × V)} (r : Paired (fun p q => p.1 = q.1 ∧ RD K J H p.2 q.2) kvs kws) (k : Key) :
    (valD kvs k = none ∧ valV kws k = none) ∨ ∃ d v, valD kvs k = some d ∧ valV kws k = some v ∧ RD K J H d v := by
  induction r with
  | nil => exact (.inl ⟨rfl, rfl⟩)
  | @cons p q ps qs x t ih =>
    by_cases e : p.1 = k
    · refine .inr ⟨p.2, q.2, ?_, ?_, x.2⟩
      · simp [valD, List.find?_cons, e]
      · exact valV_pos (x.1 ▸ e)
    · have e2 : ¬ q.1 = k := by rw [← x.1]; exact e
      rw [valV_neg e2, show valD (p :: ps) k = valD ps k by simp [valD, List.find?_cons, e]]
      exact ih
theorem key_inv {k : Key} (e : d.key = some k) (r : RD K J H d v) : v = kV k := by
  cases d with
  | int i => cases e; cases r; rfl
  | str x => cases e; cases r; rfl
  | _ => cases e
theorem any_py {x : D} : ∀ {ys : List D}, D.lays ys = true → x.lay = true → ((D.pys ys).any fun z => PyData.eqv z x.py) = ys.any fun y => y.eqv x
  | [], _, _ => rfl
  | y :: ys, h, hx => by
    simp only [D.lays, Bool.and_eq_true] at h
    simp only [D.pys, List.any_cons, eqv_py y x h.1 hx, any_py h.2 hx]
end
section
variable {X : Cx}
theorem ops_inCore (hu : X.A.units + 65 < cLine) {pins : List (Addr × Obj)} {s : Shared} {σ : L2.St} {H : Hp} {x y : V} {v u : Value} {b : Bool} {J : Jn} {h : Hh} {dx dy : D} (I : Inv X pins σ H s) (rx : L2.RelV x v) (ry : L2.RelV y u)
    (rh : RH X.K J h H) (r1 : RD X.K J H dx x) (r2 : RD X.K J H dy y) (e : opIn h dx dy = some b) :
    (∀ Q : VK, Q (.bl b) H → wpAny (model X.prog X.w) X.A (compareOp .In v u) (EP X pins σ Q) X.xe s) ∧
    (∀ Q : VK, Q (.bl (!b)) H → wpAny (model X.prog X.w) X.A (compareOp .NotIn v u) (EP X pins σ Q) X.xe s) := by
  have lists : ∀ (p : Addr) (ws : List V) (ys : List D), y = .ref p → SqL X.K H p ws → RDs X.K J H ys ws → (if dx.shp && (D.lst ys).shp then some (ys.any fun z => z.eqv dx) else none) = some b →
      (∀ Q : VK, Q (.bl b) H → wpAny (model X.prog X.w) X.A (compareOp .In v u) (EP X pins σ Q) X.xe s) ∧
      (∀ Q : VK, Q (.bl (!b)) H → wpAny (model X.prog X.w) X.A (compareOp .NotIn v u) (EP X pins σ Q) X.xe s) := by
    intro p ws ys ey hq rr e
    split at e
    · rename_i hz; cases e
      rw [Bool.and_eq_true] at hz
      have l1 := shp_lay hz.1
      have l2 : D.lays ys = true := by have := shp_lay hz.2; simpa only [D.lay] using this
      have sp : SeqAt.shaped (.list (D.pys ys)) = true := by have := shp_py hz.2; simpa only [D.py] using this
      have dl : Dp X.K H y (.list (D.pys ys)) := by rw [ey]; exact .lst hq (RDs.dp ys ws l2 rr)
      constructor
      · intro Q q
        exact op_inD hu pins s σ H x y v u Q I rx ry ⟨dx.py, D.pys ys, RD.dp dx x l1 r1, dl, shp_py hz.1, sp, by rw [any_py l2 l1]; exact q⟩
      · intro Q q
        exact op_notInD hu pins s σ H x y v u Q I rx ry ⟨dx.py, D.pys ys, RD.dp dx x l1 r1, dl, shp_py hz.1, sp, by rw [any_py l2 l1]; exact q⟩
    · cases e
  unfold opIn at e
  split at e
  · split at e
    · rename_i i ys hys
      cases r2 with
      | ref q =>
        obtain ⟨o, w, h1, h2, h3⟩ := rh.at q
        rw [hys] at h1; cases h1
        cases h3 with
        | lst z r => exact lists _ _ _ rfl (.inl (.inl h2)) r e
    · rename_i i kvs hys
      cases r2 with
      | ref q =>
        obtain ⟨o, w, h1, h2, h3⟩ := rh.at q
        rw [hys] at h1; cases h1
        cases h3 with
        | @dct _ kws z r =>
          split at e
          · rename_i k hk; cases e
            obtain rfl := key_inv hk r1
            cases (show u = Value.ref _ from ry)
            have g := DGet.k (k := k) h2
            have eb : (valV kws k).isSome = hasKey k kvs := by
              unfold hasKey
              rcases valD_rel r k with ⟨a, b⟩ | ⟨d, v, a, b, _⟩ <;> rw [a, b] <;> rfl
            rw [← eb]
            exact ⟨fun Q q => d_in (by omega) I g rx fun s' I' => ⟨.bl _, H, I', rfl, q⟩, fun Q q => d_notIn (by omega) I g rx fun s' I' => ⟨.bl _, H, I', rfl, q⟩⟩
          · cases e
    · cases e
  · cases r2 with
    | lst n m q z r => exact lists _ _ _ rfl (.inl (.inl q)) r e
  · obtain ⟨p, ws, ey, hq, z, rr⟩ := r2.tup_inv
    split at e
    · rename_i ys hz; cases e
      rw [Bool.and_eq_true] at hz
      have l1 := shp_lay hz.1
      have l2 : D.lays ys = true := by have := shp_lay hz.2; simpa only [D.lay] using this
      have sp : SeqAt.shaped (.tuple (D.pys ys)) = true := by have := shp_py hz.2; simpa only [D.py] using this
      have dl : Dp X.K H y (.tuple (D.pys ys)) := by rw [ey]; exact .tup hq (RDs.dp ys ws l2 rr)
      obtain ⟨as, q1⟩ := Dp.reads I dx.py x v (RD.dp dx x l1 r1) rx
      obtain ⟨bs, q2⟩ := Dp.reads I (.tuple (D.pys ys)) y u dl ry
      have ll : PyData.canLayAll0 (D.pys ys) = true := lays_pys ys l2
      constructor
      · intro Q q
        exact SeqAt.in_tuple_reads q2 q1 ll (lay_py dx l1) (room_in_shaped (shp_py hz.1) hu) ⟨.bl _, H, I, rfl, by rw [any_py l2 l1]; exact q⟩
      · intro Q q
        exact SeqAt.notIn_tuple_reads q2 q1 ll (lay_py dx l1) (room_in_shaped (shp_py hz.1) hu) ⟨.bl _, H, I, rfl, by rw [any_py l2 l1]; exact q⟩
    · cases e
  · obtain ⟨p, ws, ey, hq, z, rr⟩ := r2.ft_inv
    split at e
    · rename_i ys hz; cases e
      rw [Bool.and_eq_true] at hz
      have l1 := shp_lay hz.1
      have l2 : D.lays ys = true := by have := shp_lay hz.2; simpa only [D.lay] using this
      have sp : SeqAt.shaped (.tuple (D.pys ys)) = true := by have := shp_py hz.2; simpa only [D.py] using this
      have dl : Dp X.K H y (.tuple (D.pys ys)) := by rw [ey]; exact .tup hq (RDs.dp ys ws l2 rr)
      obtain ⟨as, q1⟩ := Dp.reads I dx.py x v (RD.dp dx x l1 r1) rx
      obtain ⟨bs, q2⟩ := Dp.reads I (.tuple (D.pys ys)) y u dl ry
      have ll : PyData.canLayAll0 (D.pys ys) = true := lays_pys ys l2
      constructor
      · intro Q q
        exact SeqAt.in_tuple_reads q2 q1 ll (lay_py dx l1) (room_in_shaped (shp_py hz.1) hu) ⟨.bl _, H, I, rfl, by rw [any_py l2 l1]; exact q⟩
      · intro Q q
        exact SeqAt.notIn_tuple_reads q2 q1 ll (lay_py dx l1) (room_in_shaped (shp_py hz.1) hu) ⟨.bl _, H, I, rfl, by rw [any_py l2 l1]; exact q⟩
    · cases e
  · cases e
theorem ops_in (hu : X.A.units + 65 < cLine) : OpR X (compareOp .In) (rCmp X.K (opCmp .inn)) := by
  intro pins s σ H x y v u Q I rx ry ⟨J, h, dx, dy, d, rh, r1, r2, e, q⟩
  exact (ops_inCore hu I rx ry rh r1 r2 e).1 Q q
theorem ops_nin (hu : X.A.units + 65 < cLine) : OpR X (compareOp .NotIn) (rCmp X.K (opCmp .nin)) := by
  intro pins s σ H x y v u Q I rx ry ⟨J, h, dx, dy, d, rh, r1, r2, e, q⟩
  simp only [opCmp, Option.map_eq_some_iff] at e
  obtain ⟨d, e, rfl⟩ := e
  exact (ops_inCore hu I rx ry rh r1 r2 e).2 Q q

/-! ### subscripts, slices -/
theorem atI_rel {K : PySem.W.Frag} {J : Jn} {H : Hp} {ds : List D} {vs : List V} {i : Int} {d : D} (r : RDs K J H ds vs) (e : atI ds i = some d) : ∃ v, atI vs i = some v ∧ RD K J H d v := by
  unfold atI at e ⊢
  rw [r.length] at e
  cases q : ixN vs.length i with
  | none => (rw [q] at e; cases e)
  | some j => rw [q] at e; exact r.get e
theorem ix_all (hu : X.A.units + 1 < cLine) : IxR X (rOp X.K opIdx) := by
  intro value slice pins s σ H x y v u Q I rx ry ⟨J, h, dx, dy, d, rh, r1, r2, e, q⟩ hs
  have lists : ∀ (p : Addr) (ws : List V) (ys : List D) (i : Int), x = .ref p → y = .int i → SqL X.K H p ws → RDs X.K J H ys ws → atI ys i = some d →
      wpAny (model X.prog X.w) X.A (subscriptTail value slice v u) (EP X pins σ Q) X.xe s := by
    intro p ws ys i ex ey hq rr e
    obtain ⟨w, hw, rw'⟩ := atI_rel rr e
    exact ix_list value slice pins s σ H x y v u Q I rx ry ⟨p, ws, i, w, ex, ey, hq, hw, q _ _ _ Ext.refl rh rw'⟩ hs
  unfold opIdx at e
  split at e
  · cases r2
    obtain ⟨p, ws, ex, hq, z, rr⟩ := r1.tup_inv
    obtain ⟨w, hw, rw'⟩ := atI_rel rr e
    exact ix_tup value slice pins s σ H x _ v u Q I rx ry ⟨p, ws, _, w, ex, rfl, hq, hw, q _ _ _ Ext.refl rh rw'⟩ hs
  · cases r2
    cases r1 with
    | lst n m q1 z r => exact lists _ _ _ _ rfl rfl (.inl (.inl q1)) r e
  · cases r2
    cases r1 with
    | fz n m q1 z r => exact lists _ _ _ _ rfl rfl (.inl (.inr ⟨_, q1⟩)) r e
    | kfz k z r => exact lists _ _ _ _ rfl rfl (.inr k) r e
  · split at e
    · rename_i xs i hxs
      cases r2
      cases r1 with
      | ref q1 =>
        obtain ⟨o, w, h1, h2, h3⟩ := rh.at q1
        rw [hxs] at h1; cases h1
        cases h3 with
        | lst z r => exact lists _ _ _ _ rfl rfl (.inl (.inl h2)) r e
    · rename_i kvs yy hxs
      cases r1 with
      | ref q1 =>
        obtain ⟨o, w, h1, h2, h3⟩ := rh.at q1
        rw [hxs] at h1; cases h1
        cases h3 with
        | @dct _ kws z r =>
          split at e
          · rename_i k hk
            obtain rfl := key_inv hk r2
            rcases valD_rel r k with ⟨a, b⟩ | ⟨d', v', a, b, c⟩
            · rw [a] at e; cases e
            · rw [a] at e; cases e
              cases (show v = Value.ref _ from rx)
              have g := DGet.k (k := k) h2
              rw [b] at g
              exact tail_any (dict_typeIs I g) PySem.F.slot_dict_getitem.lookup (d_getItem hu I g ry fun w' s3 I3 rw' => ⟨v', H, I3, rw', q _ _ _ Ext.refl rh c⟩) hs
          · cases e
    · cases e
  · cases e
def rSl (K : PySem.W.Frag) : V → Option Int → Option Int → Hp → VK → Prop := fun x lo hi H Q => ∃ J h dx d, RH K J h H ∧ RD K J H dx x ∧ opSlc h dx lo hi = some d ∧ ∀ J' H' v, Ext J H J' H' → RH K J' h H' → RD K J' H' d v → Q v H'
theorem cutD_rel {K : PySem.W.Frag} {J : Jn} {H : Hp} {ds : List D} {vs : List V} {lo hi : Option Int} (r : RDs K J H ds vs) : RDs K J H (cutD ds lo hi) (cutV vs lo hi) := by
  unfold cutD cutV
  rw [r.length]
  exact (r.drop _).take _
theorem cutD_whole {ds : List D} {lo hi : Option Int} (e : HT.sIx ds.length 0 lo = 0 ∧ HT.sIx ds.length ds.length hi = ds.length) : cutD ds lo hi = ds := by
  unfold cutD
  rw [e.1, e.2]; simp
theorem sl_all : SlR X (rSl X.K) := by
  intro pins s σ H x v vl vu lo hi sl Q I rx hs pl pu ⟨J, h, dx, d, rh, r1, e, q⟩
  unfold opSlc at e
  split at e
  · cases e
    obtain ⟨p, ws, ex, hq, z, rr⟩ := r1.tup_inv
    refine sl_tupA pins s σ H x v vl vu lo hi sl Q I rx hs pl pu ⟨p, ws, ex, hq, fun hw => ?_, fun _ p' np => ?_⟩
    · refine q _ _ _ Ext.refl rh ?_
      rw [cutD_whole (by rw [rr.length]; exact hw), ← ex]; exact r1
    · exact q _ _ _ (Ext.laid np) (rh.laid np) (RD.newTup rh np (cutD_rel rr) (Nat.le_trans (cutV_length _ _ _) z))
  · split at e
    · rename_i xs e2
      cases e
      obtain ⟨p, ws, ex, hq, z, rr⟩ := res_inv rh e2 r1
      exact sl_list pins s σ H x v vl vu lo hi sl Q I rx hs pl pu ⟨p, ws, ex, hq, fun p' np =>
        q _ _ _ (Ext.laid np) (rh.laid np) (RD.newLst rh np (cutD_rel rr) (Nat.le_trans (cutV_length _ _ _) z))⟩
    · cases e

/-! ### built-in functions -/
def rBf (K : PySem.W.Frag) (f : Hh → List D → Option D) : List V → Hp → VK → Prop := fun xs H Q => ∃ J h ds d, RH K J h H ∧ RDs K J H ds xs ∧ f h ds = some d ∧ ∀ J' H' v, Ext J H J' H' → RH K J' h H' → RD K J' H' d v → Q v H'
theorem one_inv {K : PySem.W.Frag} {J : Jn} {H : Hp} {d : D} {vs : List V} (r : RDs K J H [d] vs) : ∃ v, vs = [v] ∧ RD K J H d v := by
  cases r with | cons a b => cases b; exact ⟨_, rfl, a⟩
theorem two_inv {K : PySem.W.Frag} {J : Jn} {H : Hp} {d e : D} {vs : List V} (r : RDs K J H [d, e] vs) : ∃ v w, vs = [v, w] ∧ RD K J H d v ∧ RD K J H e w := by
  cases r with | cons a b => cases b with | cons b c => cases c; exact ⟨_, _, rfl, a, b⟩
theorem bf_len : CallR X (.builtin "len") (rBf X.K (opBf .len)) := by
  intro pins s σ H xs us Q I r ⟨J, h, ds, d, rh, rs, e0, q⟩
  have seqs : ∀ (p : Addr) (ws : List V) (n : Nat), xs = [.ref p] → (SqL X.K H p ws ∨ SqT X.K H p ws) → ws.length = n → d = .int n → wpAny (model X.prog X.w) X.A (call (.builtin "len") us) (EP X pins σ Q) X.xe s := by
    intro p ws n ex hq en ed
    exact call_len_seq pins s σ H xs us Q I r ⟨p, ws, ex, hq, by rw [en]; exact q _ _ _ Ext.refl rh (by rw [ed]; exact .int _)⟩
  have e : bfLen h ds = some d := e0
  clear e0
  unfold bfLen at e
  split at e
  · cases e
    obtain ⟨w, rfl, r1⟩ := one_inv rs
    obtain ⟨p, ws, ex, hq, z, rr⟩ := r1.tup_inv
    exact seqs p ws _ (by rw [ex]) (.inr hq) rr.length.symm rfl
  · cases e
    obtain ⟨w, rfl, r1⟩ := one_inv rs
    cases r1 with
    | lst n m q1 z rr => exact seqs _ _ _ rfl (.inl (.inl (.inl q1))) rr.length.symm rfl
  · cases e
    obtain ⟨w, rfl, r1⟩ := one_inv rs
    cases r1 with
    | fz n m q1 z rr => exact seqs _ _ _ rfl (.inl (.inl (.inr ⟨_, q1⟩))) rr.length.symm rfl
    | kfz k z rr => exact seqs _ _ _ rfl (.inl (.inr k)) rr.length.symm rfl
  · cases e
    obtain ⟨w, rfl, r1⟩ := one_inv rs
    cases r1 with
    | ft n m q1 c d z rr => exact seqs _ _ _ rfl (.inr (.inl (.inr ⟨_, q1⟩))) rr.length.symm rfl
  · obtain ⟨w, rfl, r1⟩ := one_inv rs
    split at e
    · rename_i hz; cases e; cases r1
      exact call_len_str pins s σ H _ us Q I r ⟨_, rfl, hz, q _ _ _ Ext.refl rh (.int _)⟩
    · cases e
  · obtain ⟨w, rfl, r1⟩ := one_inv rs
    cases r1 with
    | ref q1 =>
      obtain ⟨o, w, h1, h2, h3⟩ := rh.at q1
      rw [h1] at e
      cases h3 with
      | lst z rr => cases e; exact seqs _ _ _ rfl (.inl (.inl (.inl h2))) rr.length.symm rfl
      | dct z rr =>
        cases e
        refine call_lenD pins s σ H _ us Q I r ⟨_, _, rfl, h2, ?_⟩
        rw [← Paired.length rr]
        exact q _ _ _ Ext.refl rh (.int _)
  · cases e
theorem bf_int : CallR X (.type "int") (rBf X.K (opBf .int)) := by
  intro pins s σ H xs us Q I r ⟨J, h, ds, d, rh, rs, e0, q⟩
  have e : bfInt ds = some d := e0
  clear e0
  unfold bfInt at e
  split at e
  · cases e
    obtain ⟨w, rfl, r1⟩ := one_inv rs; cases r1
    exact call_int1 pins s σ H _ us Q I r (.inl ⟨_, rfl, q _ _ _ Ext.refl rh (.int _)⟩)
  · cases e
    obtain ⟨w, rfl, r1⟩ := one_inv rs; cases r1
    exact call_int1 pins s σ H _ us Q I r (.inr ⟨_, rfl, q _ _ _ Ext.refl rh (.int _)⟩)
  · cases e
theorem bf_abs : CallR X (.builtin "abs") (rBf X.K (opBf .abs)) := by
  intro pins s σ H xs us Q I r ⟨J, h, ds, d, rh, rs, e0, q⟩
  have e : bfAbs ds = some d := e0
  clear e0
  unfold bfAbs at e
  split at e
  · cases e
    obtain ⟨w, rfl, r1⟩ := one_inv rs; cases r1
    exact call_abs pins s σ H _ us Q I r ⟨_, rfl, q _ _ _ Ext.refl rh (.int _)⟩
  · cases e
theorem seq_cases {K : PySem.W.Frag} {J : Jn} {H : Hp} {h : Hh} {d : D} {ds : List D} {v : V} (rh : RH K J h H) (hf : ∀ ys, d ≠ .ftup ys) (e : d.seq h = some ds) (r : RD K J H d v) :
    d = .tup ds ∨ ∃ a vs, v = .ref a ∧ SqL K H a vs ∧ vs.length ≤ sizeLine ∧ RDs K J H ds vs := by
  cases d with
  | ftup xs => exact (hf xs rfl).elim
  | tup xs => cases e; exact .inl rfl
  | lst xs => exact .inr (res_inv rh (by cases e; rfl) r)
  | fz xs => exact .inr (res_inv rh (by cases e; rfl) r)
  | ref i => exact .inr (res_inv rh (by
      simp only [D.seq] at e
      split at e
      · rename_i q; cases e; simp only [D.res, q]
      · cases e) r)
  | _ => cases e
theorem bf_tuple : CallR X (.type "tuple") (rBf X.K (opBf .tuple)) := by
  intro pins s σ H xs us Q I r ⟨J, h, ds, d, rh, rs, e0, q⟩
  have e : bfTuple h ds = some d := e0
  clear e0
  unfold bfTuple at e
  split at e
  · cases e
  · rename_i x0 hx0
    obtain ⟨w, rfl, r1⟩ := one_inv rs
    simp only [Option.map_eq_some_iff] at e
    obtain ⟨ys, e1, rfl⟩ := e
    rcases seq_cases rh (fun ys z => hx0 ys (by rw [z])) e1 r1 with rfl | ⟨p, ws, rfl, hq, z, rr⟩
    · obtain ⟨p, ws, rfl, hq, z, rr⟩ := r1.tup_inv
      exact call_tuple_of pins s σ H _ us Q I r ⟨p, ws, rfl, .inr ⟨hq, q _ _ _ Ext.refl rh r1⟩⟩
    · exact call_tuple_of pins s σ H _ us Q I r ⟨p, ws, rfl, .inl ⟨hq, fun l nl => q _ _ _ (Ext.laid nl) (rh.laid nl) (RD.newTup rh nl rr z)⟩⟩
  · cases e
theorem bf_max (hc : X.calm = true) : CallR X (.builtin "max") (rBf X.K (opBf .max2)) := by
  intro pins s σ H xs us Q I r ⟨J, h, ds, d, rh, rs, e0, q⟩
  have e : bfMax ds = some d := e0
  clear e0
  unfold bfMax at e
  split at e
  · cases e
    obtain ⟨w, w2, rfl, r1, r2⟩ := two_inv rs; cases r1; cases r2
    exact call_max2 hc pins s σ H _ us Q I r ⟨_, _, rfl, q _ _ _ Ext.refl rh (.int _)⟩
  · cases e
theorem bf_min (hc : X.calm = true) : CallR X (.builtin "min") (rBf X.K (opBf .min2)) := by
  intro pins s σ H xs us Q I r ⟨J, h, ds, d, rh, rs, e0, q⟩
  have e : bfMin ds = some d := e0
  clear e0
  unfold bfMin at e
  split at e
  · cases e
    obtain ⟨w, w2, rfl, r1, r2⟩ := two_inv rs; cases r1; cases r2
    exact call_min2 hc pins s σ H _ us Q I r ⟨_, _, rfl, q _ _ _ Ext.refl rh (.int _)⟩
  · cases e
theorem ints_rel {K : PySem.W.Frag} {J : Jn} {H : Hp} : ∀ {ds : List D} {vs : List V} {ns : List Int}, RDs K J H ds vs → D.ints ds = some ns → vs = ns.map V.int
  | _, _, _, .nil, e => by cases e; rfl
  | _, _, _, .cons r t, e => by
    cases r <;> simp only [D.ints] at e <;> try (cases e; done)
    simp only [Option.map_eq_some_iff] at e
    obtain ⟨ms, e, rfl⟩ := e
    rw [ints_rel t e]; rfl
theorem bls_rel {K : PySem.W.Frag} {J : Jn} {H : Hp} : ∀ {ds : List D} {vs : List V} {ns : List Bool}, RDs K J H ds vs → D.bls ds = some ns → vs = ns.map V.bl
  | _, _, _, .nil, e => by cases e; rfl
  | _, _, _, .cons r t, e => by
    cases r <;> simp only [D.bls] at e <;> try (cases e; done)
    simp only [Option.map_eq_some_iff] at e
    obtain ⟨ms, e, rfl⟩ := e
    rw [bls_rel t e]; rfl
theorem lstOf_inv {d : D} {ds : List D} (e : d.lstOf = some ds) : d = .lst ds := by
  cases d <;> cases e; rfl
theorem bf_sum (hc : X.calm = true) : CallR X (.builtin "sum") (rBf X.K (opBf .sum)) := by
  intro pins s σ H xs us Q I r ⟨J, h, ds, d, rh, rs, e0, q⟩
  have e : bfSum h ds = some d := e0
  clear e0
  unfold bfSum at e
  split at e
  · obtain ⟨w, rfl, r1⟩ := one_inv rs
    simp only [Option.map_eq_some_iff, Option.bind_eq_some_iff] at e
    obtain ⟨ns, ⟨ys, e1, e2⟩, rfl⟩ := e
    obtain ⟨p, ws, rfl, hq, z, rr⟩ := res_inv rh (lstOf_inv e1) r1
    obtain rfl := ints_rel rr e2
    exact cr_sum hc pins s σ H _ us Q I r ⟨p, ns, rfl, hq, q _ _ _ Ext.refl rh (.int _)⟩
  · cases e
theorem bf_all (hc : X.calm = true) : CallR X (.builtin "all") (rBf X.K (opBf .all)) := by
  intro pins s σ H xs us Q I r ⟨J, h, ds, d, rh, rs, e0, q⟩
  have e : bfAll h ds = some d := e0
  clear e0
  unfold bfAll at e
  split at e
  · obtain ⟨w, rfl, r1⟩ := one_inv rs
    simp only [Option.map_eq_some_iff, Option.bind_eq_some_iff] at e
    obtain ⟨ns, ⟨ys, e1, e2⟩, rfl⟩ := e
    obtain ⟨p, ws, rfl, hq, z, rr⟩ := res_inv rh (lstOf_inv e1) r1
    obtain rfl := bls_rel rr e2
    exact cr_all hc pins s σ H _ us Q I r ⟨p, ns, rfl, hq, q _ _ _ Ext.refl rh (.bl _)⟩
  · cases e
theorem bf_any (hc : X.calm = true) : CallR X (.builtin "any") (rBf X.K (opBf .any)) := by
  intro pins s σ H xs us Q I r ⟨J, h, ds, d, rh, rs, e0, q⟩
  have e : bfAny h ds = some d := e0
  clear e0
  unfold bfAny at e
  split at e
  · obtain ⟨w, rfl, r1⟩ := one_inv rs
    simp only [Option.map_eq_some_iff, Option.bind_eq_some_iff] at e
    obtain ⟨ns, ⟨ys, e1, e2⟩, rfl⟩ := e
    obtain ⟨p, ws, rfl, hq, z, rr⟩ := res_inv rh (lstOf_inv e1) r1
    obtain rfl := bls_rel rr e2
    exact cr_any hc pins s σ H _ us Q I r ⟨p, ns, rfl, hq, q _ _ _ Ext.refl rh (.bl _)⟩
  · cases e
/-- repr of plain data -/
theorem bf_repr (hu : X.A.units + 200 < cLine) (hg : X.A.guards = some []) : CallR X (.builtin "repr") (rBf X.K (opBf .repr)) := by
  intro pins s σ H xs us Q I r ⟨J, h, ds, d, rh, rs, e0, q⟩
  have e : bfRepr h ds = some d := e0
  clear e0
  unfold bfRepr at e
  split at e
  · rename_i x
    obtain ⟨w, rfl, r1⟩ := one_inv rs
    unfold reprD at e
    split at e
    · rename_i hc
      cases e
      (simp only [Bool.and_eq_true, decide_eq_true_eq] at hc)
      obtain ⟨⟨h2, h3⟩, h4⟩ := hc
      have hl : (x.res h).lay = true := by simp only [D.shp, Bool.and_eq_true] at h2; exact h2.1
      have hd : (x.res h).dep ≤ 64 := by simp only [D.shp, Bool.and_eq_true, decide_eq_true_eq] at h2; exact h2.2
      have dp := res_dp rh hl r1
      have seq : ∀ a, w = .ref a → wpAny (model X.prog X.w) X.A (call (.builtin "repr") us) (EP X pins σ Q) X.xe s := by
        rintro u rfl
        obtain rfl := Vals.ref1 r
        obtain ⟨as, rd⟩ := Dp.reads I _ _ (.ref u) dp rfl
        exact repr_of_reads' rd h3 (PyData.noDict_hsm (PyData.hasDict_of_canLay _ (lay_py _ hl))) hg (by rw [dep_py _ hl]; omega) (fun _ _ z => z) (fun h' t tk hk => ⟨.str _, H, I.kept hk, ⟨_, rfl⟩, q _ _ _ Ext.refl rh (.str _)⟩) h4
      obtain ⟨u, rfl, ru⟩ : ∃ u, us = [u] ∧ L2.RelV w u := by
        cases r with | cons p t => cases t; exact ⟨_, rfl, p⟩
      have q2 := q _ _ _ Ext.refl rh (.str _)
      generalize x.res h = y at dp h3 h4 hl q2
      cases y with
      | tup ys => simp only [D.py] at dp; cases dp; exact seq _ rfl
      | lst ys => simp only [D.py] at dp; cases dp; exact seq _ rfl
      | non =>
        simp only [D.py] at dp; cases dp
        cases ru
        exact PySem.P.repr_of_none ⟨.str _, H, I.tok _, ⟨_, rfl⟩, q2⟩
      | bl b =>
        simp only [D.py] at dp; cases dp
        cases ru
        exact PySem.P.repr_of_bool ⟨.str _, H, I.tok _, ⟨_, rfl⟩, q2⟩
      | int i =>
        simp only [D.py] at dp; cases dp
        obtain ⟨t, rfl⟩ := ru
        simp only [D.py, PyData.showable, decide_eq_true_eq] at h3
        exact PySem.P.repr_of_int h3 ⟨.str _, H, I.tok _, ⟨_, rfl⟩, q2⟩
      | str z =>
        simp only [D.py] at dp; cases dp
        obtain ⟨t, rfl⟩ := ru
        exact PySem.P.repr_of_str ⟨.str _, H, I.tok _, ⟨_, rfl⟩, q2⟩ h4
      | _ => cases hl
    · cases e
  · cases e
/-! sorted -/
theorem insI_perm (x : Int) : ∀ l : List Int, (insI x l).Perm (x :: l)
  | [] => .refl _
  | y :: r => by
    unfold insI; split
    · exact .refl _
    · exact ((insI_perm x r).cons y).trans (.swap x y r)
theorem srtI_perm : ∀ l : List Int, (srtI l).Perm l
  | [] => .refl _
  | x :: r => (insI_perm x (srtI r)).trans ((srtI_perm r).cons x)
theorem insI_srt (x : Int) : ∀ {l : List Int}, l.Pairwise (· ≤ ·) → (insI x l).Pairwise (· ≤ ·)
  | [], _ => by simp [insI]
  | y :: r, h => by
    (obtain ⟨h1, h2⟩ := List.pairwise_cons.mp h)
    unfold insI; split
    · rename_i le
      exact List.pairwise_cons.mpr ⟨fun z hz => (List.mem_cons.mp hz).elim (fun e => by rw [e]; exact le) fun hz => Int.le_trans le (h1 z hz), h⟩
    · rename_i le
      refine List.pairwise_cons.mpr ⟨fun z hz => ?_, insI_srt x h2⟩
      rcases List.mem_cons.mp ((insI_perm x r).mem_iff.mp hz) with e | hz
      · omega
      · exact h1 z hz
theorem srtI_srt : ∀ l : List Int, (srtI l).Pairwise (· ≤ ·)
  | [] => .nil
  | x :: r => insI_srt x (srtI_srt r)
theorem srtI_eq {l m : List Int} (p : m.Perm l) (s : m.Pairwise (· ≤ ·)) : m = srtI l :=
  List.Perm.eq_of_pairwise (fun _ _ _ _ => Int.le_antisymm) s (srtI_srt l) (p.trans (srtI_perm l).symm)
def leS (x y : Str) : Prop := PySem.Spec.ltCps y.cps.toList x.cps.toList = false
theorem leS_iff {x y : Str} : leS x y ↔ ¬ y.cps.toList < x.cps.toList := by
  unfold leS
  rw [ltCps_eq, decide_eq_false_iff_not]
theorem leS_trans {x y z : Str} (a : leS x y) (b : leS y z) : leS x z := by
  rw [leS_iff] at *
  exact List.le_trans (l₁ := x.cps.toList) a b
theorem leS_total {x y : Str} (a : ¬ leS x y) : leS y x := by
  rw [leS_iff] at *
  exact List.lt_asymm (Decidable.not_not.mp a)
theorem leS_anti {x y : Str} (a : leS x y) (b : leS y x) : x = y := by
  rw [leS_iff] at *
  have e : x.cps.toList = y.cps.toList := List.le_antisymm a b
  cases x; cases y
  simp only [Array.toList_inj] at e
  rw [e]
theorem insS_perm (x : Str) : ∀ l : List Str, (insS x l).Perm (x :: l)
  | [] => .refl _
  | y :: r => by
    unfold insS; split
    · exact ((insS_perm x r).cons y).trans (.swap x y r)
    · exact .refl _
theorem srtS_perm : ∀ l : List Str, (srtS l).Perm l
  | [] => .refl _
  | x :: r => (insS_perm x (srtS r)).trans ((srtS_perm r).cons x)
theorem insS_srt (x : Str) : ∀ {l : List Str}, l.Pairwise leS → (insS x l).Pairwise leS
  | [], _ => by simp [insS]
  | y :: r, h => by
    (obtain ⟨h1, h2⟩ := List.pairwise_cons.mp h)
    unfold insS; split
    · rename_i lt
      refine List.pairwise_cons.mpr ⟨fun z hz => ?_, insS_srt x h2⟩
      rcases List.mem_cons.mp ((insS_perm x r).mem_iff.mp hz) with e | hz
      · rw [e]; exact leS_total (by unfold leS; rw [lt]; exact Bool.noConfusion)
      · exact h1 z hz
    · rename_i nlt
      have le : leS x y := by simpa [leS] using nlt
      exact List.pairwise_cons.mpr ⟨fun z hz => (List.mem_cons.mp hz).elim (fun e => by rw [e]; exact le) fun hz => leS_trans le (h1 z hz), h⟩
theorem srtS_srt : ∀ l : List Str, (srtS l).Pairwise leS
  | [] => .nil
  | x :: r => insS_srt x (srtS_srt r)
theorem srt_of_rising : ∀ (p : Str) (l : List Str), risingS p l = true → (p :: l).Pairwise leS
  | p, [], _ => by simp
  | p, x :: r, h => by
    simp only [risingS, Bool.and_eq_true, Bool.not_eq_true'] at h
    have ih := srt_of_rising x r h.2
    have px : leS p x := h.1
    refine List.pairwise_cons.mpr ⟨fun z hz => ?_, ih⟩
    (rcases List.mem_cons.mp hz with e | hz)
    · rw [e]; exact px
    · exact leS_trans px ((List.pairwise_cons.mp ih).1 z hz)
theorem srtS_eq {l m : List Str} (p : m.Perm l) (s : sortedS m = true) : m = srtS l := by
  have s2 : m.Pairwise leS := by
    cases m with
    | nil => exact .nil
    | cons x r => exact srt_of_rising x r s
  exact List.Perm.eq_of_pairwise (fun _ _ _ _ => leS_anti) s2 (srtS_srt l) (p.trans (srtS_perm l).symm)
theorem insD_mem (x : Int) : ∀ {l : List Int} {z : Int}, z ∈ insD x l ↔ z = x ∨ z ∈ l
  | [], z => by simp [insD]
  | y :: r, z => by
    unfold insD; split
    · simp
    · split
      · rename_i e; subst e; simp
      · simp only [List.mem_cons, insD_mem x]; exact or_left_comm
theorem srtD_mem : ∀ {l : List Int} {z : Int}, z ∈ srtD l ↔ z ∈ l
  | [], z => by simp [srtD]
  | x :: r, z => by
    show z ∈ insD x (srtD r) ↔ _
    rw [insD_mem, srtD_mem, List.mem_cons]
theorem insD_srt (x : Int) : ∀ {l : List Int}, l.Pairwise (· < ·) → (insD x l).Pairwise (· < ·)
  | [], _ => by simp [insD]
  | y :: r, h => by
    (obtain ⟨h1, h2⟩ := List.pairwise_cons.mp h)
    unfold insD; split
    · rename_i lt
      exact List.pairwise_cons.mpr ⟨fun z hz => (List.mem_cons.mp hz).elim (fun e => by rw [e]; exact lt) fun hz => Int.lt_trans lt (h1 z hz), h⟩
    · split
      · exact h
      · refine List.pairwise_cons.mpr ⟨fun z hz => ?_, insD_srt x h2⟩
        rcases (insD_mem x).mp hz with e | hz
        · omega
        · exact h1 z hz
theorem srtD_srt : ∀ l : List Int, (srtD l).Pairwise (· < ·)
  | [] => .nil
  | x :: r => insD_srt x (srtD_srt r)
theorem srtD_eq {l m : List Int} (s : m.Pairwise (· < ·)) (e : ∀ z, z ∈ m ↔ z ∈ l) : m = srtD l := by
  have nd : ∀ {k : List Int}, k.Pairwise (· < ·) → k.Nodup := fun h => h.imp fun h => Int.ne_of_lt h
  refine List.Perm.eq_of_pairwise (le := (· < ·)) (fun a b _ _ h1 h2 => (Int.lt_asymm h1 h2).elim) s (srtD_srt l) ?_
  exact (List.perm_ext_iff_of_nodup (nd s) (nd (srtD_srt l))).mpr fun z => by rw [e, srtD_mem]
theorem strs_rel {K : PySem.W.Frag} {J : Jn} {H : Hp} : ∀ {ds : List D} {vs : List V} {ns : List Str}, RDs K J H ds vs → D.strs ds = some ns → vs = ns.map V.str
  | _, _, _, .nil, e => by cases e; rfl
  | _, _, _, .cons r t, e => by
    cases r <;> simp only [D.strs] at e <;> try (cases e; done)
    simp only [Option.map_eq_some_iff] at e
    obtain ⟨ms, e, rfl⟩ := e
    rw [strs_rel t e]; rfl
theorem rds_ints {K : PySem.W.Frag} {J : Jn} {H : Hp} : ∀ ns : List Int, RDs K J H (ns.map D.int) (ns.map V.int)
  | [] => .nil
  | n :: ns => .cons (.int n) (rds_ints ns)
theorem rds_strs {K : PySem.W.Frag} {J : Jn} {H : Hp} : ∀ ns : List Str, RDs K J H (ns.map D.str) (ns.map V.str)
  | [] => .nil
  | n :: ns => .cons (.str n) (rds_strs ns)
theorem seq_both {K : PySem.W.Frag} {J : Jn} {H : Hp} {h : Hh} {d : D} {ds : List D} {v : V} (rh : RH K J h H) (hf : ∀ ys, d ≠ .ftup ys) (e : d.seq h = some ds) (r : RD K J H d v) :
    ∃ a vs, v = .ref a ∧ (SqL K H a vs ∨ SqT K H a vs) ∧ RDs K J H ds vs := by
  rcases seq_cases rh hf e r with rfl | ⟨p, ws, rfl, hq, z, rr⟩
  · obtain ⟨p, ws, rfl, hq, z, rr⟩ := r.tup_inv
    exact ⟨p, ws, rfl, .inr hq, rr⟩
  · exact ⟨p, ws, rfl, .inl hq, rr⟩
theorem bf_sorted : CallR X (.builtin "sorted") (rBf X.K (opBf .sorted)) := by
  intro pins s σ H xs us Q I r ⟨J, h, ds, d, rh, rs, e0, q⟩
  have e : bfSorted h ds = some d := e0
  clear e0
  unfold bfSorted at e
  split at e
  · cases e
  · rename_i x0 hx0
    obtain ⟨w, rfl, r1⟩ := one_inv rs
    rw [Option.bind_eq_some_iff] at e
    obtain ⟨ys, e1, e⟩ := e
    obtain ⟨p, ws, rfl, hq, rr⟩ := seq_both rh (fun ys z => hx0 ys (by rw [z])) e1 r1
    unfold srtItems at e
    split at e
    · rename_i ns hi
      obtain rfl := ints_rel rr hi
      split at e
      · rename_i h64
        cases e
        refine PVX.cr_srtI pins s σ H _ us Q I r ⟨p, ns, rfl, hq, h64, fun ns2 p2 a1 a2 np => ?_⟩
        rw [srtI_eq a1 a2]
        refine q _ _ _ (Ext.laid np) (rh.laid np) (RD.newLst rh np (rds_ints _) ?_)
        rw [List.length_map, (srtI_perm ns).length_eq]; exact small64 h64
      · cases e
    · split at e
      · rename_i ns hi
        obtain rfl := strs_rel rr hi
        split at e
        · rename_i h64
          cases e
          refine PVX.cr_srtS pins s σ H _ us Q I r ⟨p, ns, rfl, hq, h64, fun ns2 p2 a1 a2 np => ?_⟩
          rw [srtS_eq a1 a2]
          refine q _ _ _ (Ext.laid np) (rh.laid np) (RD.newLst rh np (rds_strs _) ?_)
          rw [List.length_map, (srtS_perm ns).length_eq]; exact small64 h64
        · cases e
      · cases e
  · cases e
/-- list(x): a new list -/
theorem bf_list : CallR X (.type "list") (fun xs H Q => ∃ J h ds d, RH X.K J h H ∧ RDs X.K J H ds xs ∧ bfList h ds = some d ∧ ∀ p ys vs, d = .lst ys → H p = none → vs.length ≤ sizeLine → RDs X.K J H ys vs → Q (.ref p) (upd H p (.lst vs))) := by
  intro pins s σ H xs us Q I r ⟨J, h, ds, d, rh, rs, e, q⟩
  unfold bfList at e
  split at e
  · obtain ⟨w, rfl, r1⟩ := one_inv rs
    simp only [Option.map_eq_some_iff] at e
    obtain ⟨ys, e, rfl⟩ := e
    obtain ⟨p, ws, rfl, hq, z, rr⟩ := seq_inv rh e r1
    exact call_list_of pins s σ H _ us Q I r ⟨p, ws, rfl, hq, fun l nl => q l _ _ rfl nl z rr⟩
  · cases e

/-! ### isinstance -/
def Ty.nm : Ty → String
  | .int => "int" | .str => "str" | .tup => "tuple" | .lst => "list" | .bl => "bool" | .dct => "dict" | .non => "NoneType"
def D.tyn (h : Hh) : D → String
  | .ftup _ => "tuple" | .non => "NoneType" | .bl _ => "bool" | .int _ => "int" | .str _ => "str" | .tup _ => "tuple" | .lst _ => "list" | .fz _ => "list"
  | .ref i => match h[i]? with
    | some (.dct _) => "dict"
    | _ => "list"
theorem tyx_of {K : PySem.W.Frag} {J : Jn} {H : Hp} {h : Hh} {d : D} {v : V} (rh : RH K J h H) (hf : d.isF = false) (r : RD K J H d v) : TyX K H v (.type (d.tyn h)) := by
  cases r with
  | ft n m q c d z r => cases hf
  | non => exact .base .non
  | bl b => exact .base (.bl b)
  | int i => exact .base (.int i)
  | str x => exact .base (.str x)
  | tup n m q z r => exact .base (.tup q)
  | ktup k z r => obtain ⟨o, its, n, k1, k2, _⟩ := k; exact .kTuple k1 k2
  | lst n m q z r => exact .base (.lst q)
  | fz n m q z r => exact .base (.frz q)
  | kfz k z r => obtain ⟨o, its, n, k1, k2, _⟩ := k; exact .kList k1 k2
  | ref q =>
    obtain ⟨o, u, h1, h2, h3⟩ := rh.at q
    simp only [D.tyn, h1]
    cases h3 with
    | lst z r => exact .base (.lst h2)
    | dct z r => exact .base (.dK h2)
theorem isi_kit : ∀ (t : Ty) (n : String), n ∈ ["NoneType", "bool", "int", "str", "tuple", "list", "dict"] → kitB n t.nm = some (decide (n = t.nm) || (decide (n = "bool") && decide (t.nm = "int"))) := by
  intro t n hn
  simp only [List.mem_cons, List.not_mem_nil, or_false] at hn
  cases t <;> rcases hn with rfl | rfl | rfl | rfl | rfl | rfl | rfl <;> decide +kernel
theorem isi_ops {t : Ty} : CallR X (.builtin "isinstance") (fun xs H Q => ∃ J h d v, RH X.K J h H ∧ d.isF = false ∧ RD X.K J H d v ∧ xs = [v, .ty t.nm] ∧ Q (.bl (opIsi t h d)) H) := by
  intro pins s σ H xs us Q I r ⟨J, h, d, v, rh, hf, r1, ex, q⟩
  have hn : d.tyn h ∈ ["NoneType", "bool", "int", "str", "tuple", "list", "dict"] := by
    cases d <;> simp only [D.tyn] <;> try decide
    split <;> decide
  have e := isi_kit t _ hn
  have e2 : (decide (d.tyn h = t.nm) || (decide (d.tyn h = "bool") && decide (t.nm = "int"))) = opIsi t h d := by
    cases r1 with
    | ref q1 =>
      obtain ⟨o, w, h1, h2, h3⟩ := rh.at q1
      cases o <;> cases t <;> simp [opIsi, D.tyn, h1, Ty.nm]
    | ft => cases hf
    | _ => cases t <;> simp [opIsi, D.tyn, Ty.nm]
  rw [e2] at e
  exact call_isi pins s σ H xs us Q I r ⟨v, .ty t.nm, .type (d.tyn h), .type t.nm, _, ex, .ty _, tyx_of rh hf r1, kit_ty e, q⟩

/-! ### methods -/
def rMt (K : PySem.W.Frag) (m : Mt) : V → List V → Hp → VK → Prop := fun x xs H Q => ∃ J h dx ds d h', RH K J h H ∧ RD K J H dx x ∧ RDs K J H ds xs ∧ mthOp m dx ds h = .ok d h' ∧ ∀ J' H' v, Ext J H J' H' → RH K J' h' H' → RD K J' H' d v → Q v H'
theorem RH.writeL {K : PySem.W.Frag} {J : Jn} {h : Hh} {H : Hp} {i : Nat} {a : Addr} {ds : List D} {vs : List V} (rh : RH K J h H) (q : J.l[i]? = some a) (z : vs.length ≤ sizeLine) (r : RDs K J H ds vs) : RH K J (h.set i (.lst ds)) (upd H a (.lst vs)) :=
  rh.write q (.lst z (r.ext (Ext.write q)))
theorem mt_lst {K : PySem.W.Frag} {J : Jn} {h : Hh} {H : Hp} {m : Mt} {x : V} {dx d : D} {ds : List D} {h' : Hh} (rh : RH K J h H) (r1 : RD K J H dx x) (e : mthOp m dx ds h = .ok d h') :
    ∃ i a ys ws ys', x = .ref a ∧ J.l[i]? = some a ∧ H a = some (.lst ws) ∧ ws.length ≤ sizeLine ∧ RDs K J H ys ws ∧ mtL m ys ds = some (d, ys') ∧ h' = h.set i (.lst ys') := by
  cases r1 with
  | ref q1 =>
    obtain ⟨o, w, h1, h2, h3⟩ := rh.at q1
    simp only [mthOp, mthRef, h1] at e
    cases h3 with
    | lst z rr =>
      dsimp only at e
      split at e
      · rename_i p hp; cases e; exact ⟨_, _, _, _, _, rfl, q1, h2, z, rr, hp, rfl⟩
      · cases e
    | dct z rr => cases e
  | _ => cases e
theorem mt_appendD : MtR X "list.append" (rMt X.K .append) := by
  intro pins s σ H x xs v us Q I rx rs ⟨J, h, dx, ds, d, h', rh, r1, r2, e, q⟩
  obtain ⟨i, a, ys, ws, ys', rfl, q1, h2, z, rr, e1, rfl⟩ := mt_lst rh r1 e
  have e2 : mtAppend ys ds = some (d, ys') := e1
  unfold mtAppend at e2
  split at e2
  · split at e2
    · rename_i hz; cases e2
      obtain ⟨y, rfl, ry⟩ := one_inv r2
      have hs : ws.length + 1 ≤ sizeLine := by rw [← rr.length]; exact size_of hz
      exact mt_append pins s σ H _ _ v us Q I rx rs ⟨_, ws, y, rfl, rfl, h2, hs, q _ _ _ (Ext.write q1) (rh.writeL q1 (by rw [List.length_append]; exact hs) (rr.append (.cons ry .nil))) .non⟩
    · cases e2
  · cases e2
theorem mt_popD : MtR X "list.pop" (fun x xs H Q => rMt X.K .pop x xs H Q ∨ rMt X.K .popAt x xs H Q) := by
  intro pins s σ H x xs v us Q I rx rs hw
  rcases hw with ⟨J, h, dx, ds, d, h', rh, r1, r2, e, q⟩ | ⟨J, h, dx, ds, d, h', rh, r1, r2, e, q⟩
  · obtain ⟨i, a, ys, ws, ys', rfl, q1, h2, z, rr, e1, rfl⟩ := mt_lst rh r1 e
    have e2 : mtPop ys ds = some (d, ys') := e1
    unfold mtPop at e2
    split at e2
    · simp only [Option.map_eq_some_iff] at e2
      obtain ⟨y, hy, e3⟩ := e2
      cases e3
      rw [rr.length] at hy
      obtain ⟨w, hw, rw'⟩ := rr.get hy
      cases r2
      exact mt_pop pins s σ H _ _ v us Q I rx rs ⟨_, ws, w, rfl, rfl, h2, hw, q _ _ _ (Ext.write q1) (rh.writeL q1 (by rw [List.length_dropLast]; omega) rr.dropLast) (rw'.ext (Ext.write q1))⟩
    · cases e2
  · obtain ⟨i, a, ys, ws, ys', rfl, q1, h2, z, rr, e1, rfl⟩ := mt_lst rh r1 e
    have e2 : mtPopAt ys ds = some (d, ys') := e1
    unfold mtPopAt at e2
    split at e2
    · simp only [Option.map_eq_some_iff, Option.bind_eq_some_iff] at e2
      obtain ⟨j, hk, y, hy, e3⟩ := e2
      cases e3
      rw [rr.length] at hk
      obtain ⟨w, hw, rw'⟩ := rr.get hy
      obtain ⟨s1, s2, s3, s4⟩ := ixN_seq hk
      obtain ⟨y2, rfl, ry⟩ := one_inv r2
      cases ry
      have hs := sizeLine_eq
      refine mt_popAt pins s σ H _ _ v us Q I rx rs ⟨_, ws, _, j, w, rfl, rfl, h2, by omega, by omega, s1, hw, q _ _ _ (Ext.write q1) (rh.writeL q1 ?_ (rr.eraseIdx _)) (rw'.ext (Ext.write q1))⟩
      have := List.length_eraseIdx_le ws j
      omega
    · cases e2
end
end PV
end

section
set_option maxRecDepth 100000
namespace PV
open L2 PySem PySem.Spec PyProof.Rows

/-! ### the text's forms -/
def asName : Expr → Option Str
  | .Name x _ => some x
  | _ => none
def asCon : Expr → Option Const
  | .Constant k _ _ => some k
  | _ => none
def asTup : Expr → Option (List Expr)
  | .Tuple xs _ _ => some xs
  | _ => none
def asLst : Expr → Option (List Expr)
  | .List xs _ => some xs
  | _ => none
def asBin : Expr → Option (Expr × Operator × Expr)
  | .BinOp a o b _ => some (a, o, b)
  | _ => none
def asUn : Expr → Option (UnaryOp × Expr)
  | .UnaryOp o a _ => some (o, a)
  | _ => none
def asCmp1 : Expr → Option (Expr × CmpOp × Expr)
  | .Compare a [o] [b] _ => some (a, o, b)
  | _ => none
def asCmp2 : Expr → Option (Expr × CmpOp × CmpOp × Expr × Expr)
  | .Compare a [o, p] [b, c] _ => some (a, o, p, b, c)
  | _ => none
def asBool : Expr → Option (BoolOp × Expr × List Expr)
  | .BoolOp o (a :: es) _ => some (o, a, es)
  | _ => none
def asIf : Expr → Option (Expr × Expr × Expr)
  | .IfExp c a b _ => some (c, a, b)
  | _ => none
def asSub : Expr → Option (Expr × Expr)
  | .Subscript a i _ => some (a, i)
  | _ => none
def asSlc : Expr → Option (Option Expr × Option Expr)
  | .Slice lo hi none _ => some (lo, hi)
  | _ => none
def asCall : Expr → Option (Str × List Expr)
  | .Call (.Name x _) es [] _ => some (x, es)
  | _ => none
def asMth : Expr → Option (Expr × Str × List Expr)
  | .Call (.Attribute o m apos) es [] cpos => if apos.endLine == cpos.line then some (o, m, es) else none
  | _ => none
def asLc : Expr → Option (Expr × Expr × Expr × List Expr × Scope)
  | .ListComp elt [⟨tg, iter, ifs, a⟩] scope _ => if a = 0 then some (elt, tg, iter, ifs, scope) else none
  | _ => none
def asDic0 : Expr → Bool
  | .Dict [] [] _ => true
  | _ => false
def asIsi : Expr → Option (Str × Expr × Str)
  | .Call (.Name f _) [a, .Name ty _] [] _ => some (f, a, ty)
  | _ => none
def asTenum : Expr → Option (Str × Str × Expr)
  | .Call (.Name f _) [.Call (.Name g _) [a] [] _] [] _ => some (f, g, a)
  | _ => none
def asCallK : Expr → Option (Str × List Expr × List Keyword)
  | .Call (.Name x _) es kws _ => some (x, es, kws)
  | _ => none
/-- not a star, a set display or a slice -/
def plainX : Expr → Bool
  | .Starred .. => false
  | .Set .. => false
  | .Slice .. => false
  | _ => true
section
variable {e : Expr}
theorem asName_eq {x : Str} (h : asName e = some x) : ∃ p, e = .Name x p := by cases e <;> simp [asName] at h; exact ⟨_, by rw [h]⟩
theorem asCon_eq {x : Const} (h : asCon e = some x) : ∃ k p, e = .Constant x k p := by cases e <;> simp [asCon] at h; exact ⟨_, _, by rw [h]⟩
theorem asTup_eq {x : List Expr} (h : asTup e = some x) : ∃ k p, e = .Tuple x k p := by cases e <;> simp [asTup] at h; exact ⟨_, _, by rw [h]⟩
theorem asLst_eq {x : List Expr} (h : asLst e = some x) : ∃ p, e = .List x p := by cases e <;> simp [asLst] at h; exact ⟨_, by rw [h]⟩
theorem asBin_eq {a b : Expr} {o : Operator} (h : asBin e = some (a, o, b)) : ∃ p, e = .BinOp a o b p := by
  cases e <;> simp [asBin] at h; obtain ⟨rfl, rfl, rfl⟩ := h; exact ⟨_, rfl⟩
theorem asUn_eq {a : Expr} {o : UnaryOp} (h : asUn e = some (o, a)) : ∃ p, e = .UnaryOp o a p := by
  cases e <;> simp [asUn] at h; obtain ⟨rfl, rfl⟩ := h; exact ⟨_, rfl⟩
theorem asCmp1_eq {a b : Expr} {o : CmpOp} (h : asCmp1 e = some (a, o, b)) : ∃ p, e = .Compare a [o] [b] p := by
  unfold asCmp1 at h
  split at h
  · cases h; exact ⟨_, rfl⟩
  · cases h
theorem asCmp2_eq {a b c : Expr} {o p : CmpOp} (h : asCmp2 e = some (a, o, p, b, c)) : ∃ q, e = .Compare a [o, p] [b, c] q := by
  unfold asCmp2 at h
  split at h
  · cases h; exact ⟨_, rfl⟩
  · cases h
theorem asBool_eq {a : Expr} {o : BoolOp} {es : List Expr} (h : asBool e = some (o, a, es)) : ∃ p, e = .BoolOp o (a :: es) p := by
  unfold asBool at h
  split at h
  · cases h; exact ⟨_, rfl⟩
  · cases h
theorem asIf_eq {a b c : Expr} (h : asIf e = some (c, a, b)) : ∃ p, e = .IfExp c a b p := by
  cases e <;> simp [asIf] at h; obtain ⟨rfl, rfl, rfl⟩ := h; exact ⟨_, rfl⟩
theorem asSub_eq {a i : Expr} (h : asSub e = some (a, i)) : ∃ p, e = .Subscript a i p := by
  cases e <;> simp [asSub] at h; obtain ⟨rfl, rfl⟩ := h; exact ⟨_, rfl⟩
theorem asSlc_eq {lo hi : Option Expr} (h : asSlc e = some (lo, hi)) : ∃ p, e = .Slice lo hi none p := by
  unfold asSlc at h
  split at h
  · cases h; exact ⟨_, rfl⟩
  · cases h
theorem asCall_eq {x : Str} {es : List Expr} (h : asCall e = some (x, es)) : ∃ p q, e = .Call (.Name x p) es [] q := by
  unfold asCall at h
  split at h
  · cases h; exact ⟨_, _, rfl⟩
  · cases h
theorem asMth_eq {o : Expr} {m : Str} {es : List Expr} (h : asMth e = some (o, m, es)) : ∃ p q, e = .Call (.Attribute o m p) es [] q ∧ (p.endLine == q.line) = true := by
  unfold asMth at h
  split at h
  · split at h
    · rename_i hl; cases h; exact ⟨_, _, rfl, hl⟩
    · cases h
  · cases h
theorem asLc_eq {elt tg iter : Expr} {ifs : List Expr} {scope : Scope} (h : asLc e = some (elt, tg, iter, ifs, scope)) : ∃ p, e = .ListComp elt [⟨tg, iter, ifs, 0⟩] scope p := by
  unfold asLc at h
  split at h
  · split at h
    · rename_i ha; cases h; subst ha; exact ⟨_, rfl⟩
    · cases h
  · cases h
theorem asDic0_eq (h : asDic0 e = true) : ∃ p, e = .Dict [] [] p := by
  unfold asDic0 at h
  split at h
  · exact ⟨_, rfl⟩
  · cases h
theorem asIsi_eq {f ty : Str} {a : Expr} (h : asIsi e = some (f, a, ty)) : ∃ p q r, e = .Call (.Name f p) [a, .Name ty q] [] r := by
  unfold asIsi at h
  split at h
  · cases h; exact ⟨_, _, _, rfl⟩
  · cases h
theorem asTenum_eq {f g : Str} {a : Expr} (h : asTenum e = some (f, g, a)) : ∃ p q r s, e = .Call (.Name f p) [.Call (.Name g q) [a] [] r] [] s := by
  unfold asTenum at h
  split at h
  · cases h; exact ⟨_, _, _, _, rfl⟩
  · cases h
theorem asCallK_eq {x : Str} {es : List Expr} {kws : List Keyword} (h : asCallK e = some (x, es, kws)) : ∃ p q, e = .Call (.Name x p) es kws q := by
  unfold asCallK at h
  split at h
  · cases h; exact ⟨_, _, rfl⟩
  · cases h
theorem plain_star (h : plainX e = true) (es : List Expr) (env : PySem.Env) : starEach (e :: es) env = (false, eval e env) :: starEach es env := by
  cases e <;> first | rfl | simp [plainX] at h
theorem plain_mark (h : plainX e = true) (o : CmpOp) : behindInMarks o e = false := by cases e <;> first | rfl | simp [plainX] at h
theorem plain_fold (h : plainX e = true) (env : PySem.Env) (x : Value) : foldedSetIterable e env x = pure x := by cases e <;> first | rfl | simp [plainX] at h
theorem plain_ix (h : plainX e = true) : PlainIx e := by intro o i; cases e <;> first | rfl | simp [plainX] at h
end
end PV
end

section
set_option maxRecDepth 100000
namespace PV
open L2 PySem PySem.Spec PyProof.Rows

/-! ### what is known of the place where a piece stands -/
structure Cs where
  N : List Str
  sc : Scope
  fn : Str → Bool
  bs : List Str
  T : List Fn
  gn : List Str
  /-- exception classes that are made; (made, named in a clause, whether it is taken) -/
  xs : List Str
  xm : List (Str × Str × Bool)
def spF (K : PySem.W.Frag) (mg : Str → Option Value) (F : Fns) (f : Nat) (n : Nat) : Sp := fun vs H Q E => vs.length = n ∧ ∃ J h ds, RDs K J H ds vs ∧ RH K J h H ∧ PostX K mg E J H (rD K) (F f ds h) Q
/-- how a call with keywords binds -/
structure KwOk (K : PySem.W.Frag) (fd : FuncData) (ps : List Str) (n : Nat) (ks : List Str) (pm : List Nat) : Prop where
  to : ∀ (s : Shared) (us ws : List Value), K.In s.heap → us.length = n → ws.length = ks.length → BindsTo s fd ⟨us, ks.zip ws⟩ (ps.zip (pmD .none pm us ws))
  len : pm.length = ps.length
/-- what a def promises where no repr is under way -/
structure FnG (P : Program) (w : World) (K : PySem.W.Frag) (mg : Str → Option Value) (base : Heap) (k : Nat) (f : Addr) (fd : FuncData) (ps : List Str) (sp : Sp) : Prop where
  len : ∀ vs H Q E, (sp vs H Q E → vs.length = ps.length)
  go : ∀ {A : Around} {out : List PySem.Env} {s : Shared} {H : Hp} {args : Args} {us : List Value} {vs : List V} {Q : VK} {E : XK}, Room k A → A.guards = some [] → Env0 P w K mg base A out s H → BindsTo s fd args (ps.zip us) → Vals vs us → sp vs H Q E →
    codeAny (model P w) A (.call (.ref f) args) (CR (L2.CX P w) out P w H s Q E) s
structure CallOk (T : List Fn) (F : Fns) (X : Cx) : Prop where
  ok : ∃ k, Room k X.A ∧ X.A.guards = some [] ∧ ∀ (f : Nat) (fn : Fn), T[f]? = some fn → ∃ a fd, X.mg fn.name = some (.ref a) ∧ PySem.W.keepIn X.K (.ref a) = true ∧ FnG X.prog X.w X.K X.mg X.base k a fd fn.P (spF X.K X.mg F f fn.P.length) ∧ Binds X.K fd fn.P [] ∧ ∀ q ∈ fn.kw, KwOk X.K fd fn.P q.1 q.2.1 q.2.2
structure Ok (c : Cs) (F : Fns) (G : List D) (X : Cx) : Prop where
  hN : X.N = c.N
  nd : X.N.Nodup
  sc : X.env.scope = c.sc
  fn : X.fn = c.fn
  calm : X.calm = true
  call : CallOk c.T F X
  blt : ∀ x ∈ c.bs, X.mg x = none
  glo : ∀ (i : Nat) (x : Str) (d : D), c.gn[i]? = some x → G[i]? = some d → ∃ v u, X.mg x = some u ∧ L2.RelV v u ∧ ∀ J H, RD X.K J H d v
  exc : ∀ x ∈ c.xs, ∃ C, X.mg x = some (.ref C) ∧ PySem.W.excIn X.K C He.veBase "ValueError.__new__" = true ∧ PySem.W.keepIn X.K (.ref C) = true ∧ Raises X (.ref C)
  exm : ∀ x y b, (x, y, b) ∈ c.xm → ∃ C C', X.mg x = some (.ref C) ∧ X.mg y = some (.ref C') ∧ PySem.W.exmOne X.K (.ref C) (.ref C') = some b
def Cs.vis (c : Cs) (i : Nat) (x : Str) : Bool :=
  decide (c.N[i]? = some x) && (match c.sc.names.lookup x with | some .local => true | some .cell => true | some .free => true | _ => false) && !(x == ("__debug__" : Str)) && !(x == ("__classdict__" : Str))
def Cs.loc (c : Cs) (i : Nat) (x : Str) : Bool :=
  decide (c.N[i]? = some x) && (match c.sc.names.lookup x with | some .local => true | some .cell => c.fn x | _ => false)
def Cs.glb (c : Cs) (x : Str) : Bool :=
  (match c.sc.names.lookup x with | some .globalImplicit => true | _ => false) && !(x == ("__debug__" : Str))
section
variable {c : Cs} {F : Fns} {G : List D} {X : Cx}
theorem Ok.units (o : Ok c F G X) : X.A.units + 200 < cLine := by
  obtain ⟨k, hr, _, _⟩ := o.call.ok
  have := hr.un; omega
theorem Ok.guards (o : Ok c F G X) : X.A.guards = some [] := by
  obtain ⟨k, _, h, _⟩ := o.call.ok
  exact h
theorem vis_ok (o : Ok c F G X) {i : Nat} {x : Str} (h : c.vis i x = true) : X.N[i]? = some x ∧ Vis X.env.scope x ∧ (x == ("__debug__" : Str)) = false ∧ (x == ("__classdict__" : Str)) = false := by
  simp only [Cs.vis, Bool.and_eq_true, decide_eq_true_eq, Bool.not_eq_true'] at h
  (obtain ⟨⟨⟨h1, h2⟩, h3⟩, h4⟩ := h)
  refine ⟨by rw [o.hN]; exact h1, ?_, h3, h4⟩
  unfold Vis
  rw [o.sc]
  split at h2
  · exact .inl (by assumption)
  · exact .inr (.inl (by assumption))
  · exact .inr (.inr (by assumption))
  · cases h2
theorem loc_ok (o : Ok c F G X) {i : Nat} {x : Str} (h : c.loc i x = true) : X.N[i]? = some x ∧ L2.Loc X.env.scope x ∧ (X.fn x = true ∨ X.env.scope.names.lookup x = some .local) := by
  simp only [Cs.loc, Bool.and_eq_true, decide_eq_true_eq] at h
  obtain ⟨h1, h2⟩ := h
  refine ⟨by rw [o.hN]; exact h1, ?_, ?_⟩
  · unfold L2.Loc
    rw [o.sc]
    split at h2
    · exact .inl (by assumption)
    · exact .inr (by assumption)
    · cases h2
  · rw [o.sc, o.fn]
    split at h2
    · exact .inr (by assumption)
    · exact .inl h2
    · cases h2
theorem glb_ok (o : Ok c F G X) {x : Str} (h : c.glb x = true) : Gl X x ∧ (x == ("__debug__" : Str)) = false := by
  simp only [Cs.glb, Bool.and_eq_true, Bool.not_eq_true'] at h
  refine ⟨?_, h.2⟩
  have h1 := h.1
  unfold Gl PySem.Env.kindOf
  rw [o.sc]
  split at h1
  · assumption
  · cases h1
end

/-! ### what a piece's proof gives -/
structure SE (X : Cx) (e : Expr) (p : P) : Prop where
  v : PE X e (tG X.K (rD X.K) p.v)
  t : PT X e (tG X.K rB p.t)
structure SEs (X : Cx) (es : List Expr) (p : PL) : Prop where
  l : PA X es (tG X.K (rDs X.K) p.l)
  nil : p.nil = es.isEmpty
  kw : ∀ kws : List Keyword, kws.map (·.value) = es → PK X kws (tG X.K (rDs X.K) p.l)
  an : ∀ pos, PE X (.BoolOp .And es pos) (tG X.K (rD X.K) p.an)
  on : ∀ pos, PE X (.BoolOp .Or es pos) (tG X.K (rD X.K) p.on)
  at_ : ∀ pos, PW X (.BoolOp .And es pos) (tG X.K rB p.at_)
  ot : ∀ pos, PW X (.BoolOp .Or es pos) (tG X.K rB p.ot)
section
variable {X : Cx} {e x a b : Expr} {p pa pb pc : P} {pos : Pos}
theorem tru_rel {K : PySem.W.Frag} {J : Jn} {h : Hh} {H : Hp} {d : D} {v : V} {b : Bool} (rh : RH K J h H) (r : RD K J H d v) (e : d.tru h = some b) : TruV K v H b := by
  cases d with
  | non => cases r; cases e; rfl
  | bl c => cases r; cases e; rfl
  | int i => cases r; cases e; rfl
  | str y =>
    cases r
    simp only [D.tru] at e
    split at e
    · rename_i hz; cases e; exact ⟨hz, rfl⟩
    · cases e
  | ftup xs => cases e
  | tup xs =>
    cases e
    obtain ⟨a, vs, rfl, hq, z, rr⟩ := r.tup_inv
    refine .inr (.inl ⟨vs, hq, ?_⟩)
    cases rr <;> rfl
  | lst xs =>
    cases e
    obtain ⟨a, vs, rfl, hq, z, rr⟩ := res_inv rh rfl r
    refine .inl ⟨vs, hq, ?_⟩
    cases rr <;> rfl
  | fz xs =>
    cases e
    obtain ⟨a, vs, rfl, hq, z, rr⟩ := res_inv rh rfl r
    refine .inl ⟨vs, hq, ?_⟩
    cases rr <;> rfl
  | ref i =>
    cases r with
    | ref q =>
      obtain ⟨o, u, h1, h2, h3⟩ := rh.at q
      simp only [D.tru, h1] at e
      cases h3 with
      | lst z rr => cases e; refine .inl ⟨_, .inl (.inl h2), ?_⟩; cases rr <;> rfl
      | dct z rr => cases e; refine .inr (.inr ⟨_, h2, ?_⟩); cases rr <;> rfl
/-- an expression whose test is its value's truth -/
theorem SE.plain {v : Env → Hh → R D} (hv : PE X x (tG X.K (rD X.K) v)) (he : ∀ whole, isTrue x X.env whole = (do let v ← whole; standAt x.pos; holding [v] (truthy v))) : SE X x (.plain v) := by
  refine ⟨hv, (pt_truth hv he).imp fun σ H Q ⟨ρ, h, J, re, rh, q⟩ => ?_⟩
  refine (Post.step (R1 := rD X.K) (f := v) re rh q).mono fun y H1 ⟨J1, h1, d, e1, re1, rh1, rd, q1⟩ => ?_
  obtain ⟨b, hb, q2⟩ := Post.opt rh1 q1
  exact ⟨b, tru_rel rh1 rd hb, q2 b rfl⟩
theorem SE.ofB {v : Env → Hh → R D} {t : Env → Hh → R Bool} (hv : PE X x (tG X.K (rD X.K) v)) (ht : PT X x (tG X.K rB t)) : SE X x ⟨v, t⟩ := ⟨hv, ht⟩

theorem se_var {i : Nat} {y : Str} {c : Cs} {F : Fns} {G : List D} (o : Ok c F G X) (h : c.vis i y = true) : SE X (.Name y pos) (evE F G (.var i)) := by
  obtain ⟨h1, h2, h3, h4⟩ := vis_ok o h
  refine SE.plain ((pe_var h1 h2 h3 h4).imp fun σ H Q ⟨ρ, hh, J, re, rh, q⟩ => ?_) (fun _ => rfl)
  cases e : ρ[i]? with
  | none => simp only [e] at q; exact False.elim q
  | some od =>
    cases od with
    | none => simp only [e] at q; exact False.elim q
    | some d =>
      simp only [e] at q
      obtain ⟨v, hv, rd⟩ := re.get i d e
      exact ⟨v, hv, q J H v Ext.refl rh rd⟩
def conM : D → Const → Bool
  | .non, .none => true
  | .bl a, .bool b => a == b
  | .int i, .int j => decide (i = j)
  | .str a, .str b => decide (a = b)
  | _, _ => false
theorem se_con {d : D} {k : Const} {n : Nat} {F : Fns} {G : List D} (h : conM d k = true) : SE X (.Constant k n pos) (evE F G (.con d)) := by
  refine SE.plain ?_ (fun _ => rfl)
  unfold conM at h
  split at h
  · exact pe_non.imp fun σ H Q ⟨ρ, hh, J, re, rh, q⟩ => q J H _ Ext.refl rh .non
  · have := beq_iff_eq.mp h; subst this
    exact pe_bl.imp fun σ H Q ⟨ρ, hh, J, re, rh, q⟩ => q J H _ Ext.refl rh (.bl _)
  · have := of_decide_eq_true h; subst this
    exact pe_int.imp fun σ H Q ⟨ρ, hh, J, re, rh, q⟩ => q J H _ Ext.refl rh (.int _)
  · have := of_decide_eq_true h; subst this
    exact pe_str.imp fun σ H Q ⟨ρ, hh, J, re, rh, q⟩ => q J H _ Ext.refl rh (.str _)
  · cases h
theorem se_glo {i : Nat} {y : Str} {c : Cs} {F : Fns} {G : List D} (o : Ok c F G X) (h : c.gn[i]? = some y) (hg : c.glb y = true) : SE X (.Name y pos) (evE F G (.glo i)) := by
  obtain ⟨h1, h2⟩ := glb_ok o hg
  refine SE.plain ?_ (fun _ => rfl)
  cases e : G[i]? with
  | none => exact ⟨fun pins s σ H Q I ⟨ρ, hh, J, re, rh, q⟩ => by exact False.elim q⟩
  | some d =>
    obtain ⟨v, u, hm, rv, rd⟩ := o.glo i y d h e
    exact (pe_glob h1 hm rv h2).imp fun σ H Q ⟨ρ, hh, J, re, rh, q⟩ => by
      exact q J H v Ext.refl rh (rd J H)

/-! ### operators -/
theorem se_bin' {op : Operator} {f : Hh → D → D → Option D} (ho : OpR X (binaryOp op) (rOp X.K f)) (ha : SE X a pa) (hb : SE X b pb) :
    SE X (.BinOp a op b pos) (.plain fun ρ h => (pa.v ρ h).bind fun x h1 => (pb.v ρ h1).bind fun y h2 => R.opt (f h2 x y) h2) := by
  refine SE.plain ((pe_op ho ha.v hb.v).imp fun σ H Q ⟨ρ, h, J, re, rh, q⟩ => ?_) (fun _ => rfl)
  refine (Post.step (R1 := rD X.K) (f := pa.v) re rh q).mono fun x H1 ⟨J1, h1, dx, e1, re1, rh1, rx, q1⟩ => ?_
  refine (Post.step (R1 := rD X.K) (f := pb.v) re1 rh1 q1).mono fun y H2 ⟨J2, h2, dy, e2, re2, rh2, ry, q2⟩ => ?_
  obtain ⟨d, hd, q3⟩ := Post.optX q2
  exact ⟨J2, h2, dx, dy, d, rh2, rx.ext e2, ry, hd, q3⟩
def bopM : BOp → Operator → Bool
  | .add, .Add => true
  | .sub, .Sub => true
  | .mul, .Mult => true
  | .fdiv, .FloorDiv => true
  | .mod, .Mod => true
  | .pow, .Pow => true
  | _, _ => false
theorem bopM_ok {o : BOp} {p : Operator} (h : bopM o p = true) : OpR X (binaryOp p) (rOp X.K (opBin o)) := by
  unfold bopM at h
  split at h
  · exact ops_add
  · exact ops_sub
  · exact ops_mul
  · exact ops_fdiv
  · exact ops_mod
  · exact ops_pow
  · cases h
def copM : COp → CmpOp → Bool
  | .eq, .Eq => true
  | .ne, .NotEq => true
  | .lt, .Lt => true
  | .le, .LtE => true
  | .gt, .Gt => true
  | .ge, .GtE => true
  | .inn, .In => true
  | .nin, .NotIn => true
  | .is, .Is => true
  | .isn, .IsNot => true
  | _, _ => false
theorem copM_ok (hu : X.A.units + 200 < cLine) {o : COp} {p : CmpOp} (h : copM o p = true) : OpR X (compareOp p) (rCmp X.K (opCmp o)) := by
  unfold copM at h
  split at h
  · exact ops_eq (by omega)
  · exact ops_ne (by omega)
  · exact ops_lt
  · exact ops_le
  · exact ops_gt
  · exact ops_ge
  · exact ops_in (by omega)
  · exact ops_nin (by omega)
  · exact ops_is
  · exact ops_isn
  · cases h
/-- a test that is known as a value -/
theorem pt_ofV {e : Expr} {r : TE} (h : PT X e (tTest r)) {t : L2.St → Hp → (Bool → Hp → Prop) → Prop} (i : ∀ σ H Q, t σ H Q → r σ H fun x H' => ∃ k, x = .bl k ∧ Q k H') : PT X e t := h.imp i
theorem se_cmp' {op : CmpOp} {f : Hh → D → D → Option Bool} (ho : OpR X (compareOp op) (rCmp X.K f)) (hp : plainX b = true) (ha : SE X a pa) (hb : SE X b pb) :
    SE X (.Compare a [op] [b] pos) (.plain fun ρ h => (pa.v ρ h).bind fun x h1 => (pb.v ρ h1).bind fun y h2 => R.opt ((f h2 x y).map D.bl) h2) := by
  have core : ∀ {σ : L2.St} {H : Hp} {ρ : Env} {h : Hh} {J : Jn} {Q : V → Hp → Prop} {α β : Type} {Rl : RelA α β} {g : D → Hh → R α} {Q' : β → Hp → Prop}, RE X.K J H ρ σ → RH X.K J h H →
      Post X.K J H Rl (((pa.v ρ h).bind fun x h1 => (pb.v ρ h1).bind fun y h2 => R.opt ((f h2 x y).map D.bl) h2).bind g) Q' →
      (∀ (k : Bool) (H' : Hp) (J' : Jn) (h' : Hh), RE X.K J' H' ρ σ → RH X.K J' h' H' → Post X.K J' H' Rl (g (.bl k) h') Q' → Q (.bl k) H') →
      tOp (rCmp X.K f) (tG X.K (rD X.K) pa.v) (tG X.K (rD X.K) pb.v) σ H Q := by
    intro σ H ρ h J Q α β Rl g Q' re rh q fin
    simp only [R.bind_assoc] at q
    refine (Post.step (R1 := rD X.K) (f := pa.v) re rh q).mono fun x H1 ⟨J1, h1, dx, e1, re1, rh1, rx, q1⟩ => ?_
    refine (Post.step (R1 := rD X.K) (f := pb.v) re1 rh1 q1).mono fun y H2 ⟨J2, h2, dy, e2, re2, rh2, ry, q2⟩ => ?_
    cases hd : f h2 dx dy with
    | none => rw [hd] at q2; exact False.elim q2
    | some k => rw [hd] at q2; exact ⟨J2, h2, dx, dy, k, rh2, rx.ext e2, ry, hd, fin k H2 J2 h2 re2 rh2 q2⟩
  refine ⟨(pe_cmpR ho ha.v hb.v (plain_mark hp _)).imp fun σ H Q ⟨ρ, h, J, re, rh, q⟩ => ?_, (pt_cmpR ho ha.v hb.v (plain_mark hp _)).imp fun σ H Q ⟨ρ, h, J, re, rh, q⟩ => ?_⟩
  · have as2 : ∀ r : R D, r = r.bind fun x h => .ok x h := fun r => by cases r <;> rfl
    dsimp only [P.plain] at q
    rw [as2 ((pa.v ρ h).bind _)] at q
    exact core re rh q fun k H' J' h' _ rh' q' => q' J' H' _ Ext.refl rh' (.bl k)
  · exact core re rh q fun k H' J' h' _ rh' q' => ⟨k, rfl, q' J' H' k Ext.refl rh' rfl⟩
end
end PV
end

section
set_option maxRecDepth 100000
namespace PV
open L2 PySem PySem.Spec PyProof.Rows
section
variable {X : Cx} {e x a b : Expr} {p pa pb pc : P} {pos : Pos}

/-! ### chains -/
theorem se_chain {op op' : CmpOp} {f f' : Hh → D → D → Option Bool} {c : Expr} (ho : OpR X (compareOp op) (rCmp X.K f)) (ho' : OpR X (compareOp op') (rCmp X.K f')) (hp : plainX c = true) (ha : SE X a pa) (hb : SE X b pb) (hc : SE X c pc) :
    SE X (.Compare a [op, op'] [b, c] pos) (.plain fun ρ h => (pa.v ρ h).bind fun x h1 => (pb.v ρ h1).bind fun y h2 => (R.opt (f h2 x y) h2).bind fun t h3 =>
      if t then (pc.v ρ h3).bind fun z h4 => R.opt ((f' h4 y z).map D.bl) h4 else .ok (.bl false) h3) := by
  have core : ∀ {σ : L2.St} {H : Hp} {ρ : Env} {h : Hh} {J : Jn} {Q : V → Hp → Prop} {α β : Type} {Rl : RelA α β} {g : D → Hh → R α} {Q' : β → Hp → Prop}, RE X.K J H ρ σ → RH X.K J h H →
      Post X.K J H Rl (((pa.v ρ h).bind fun x h1 => (pb.v ρ h1).bind fun y h2 => (R.opt (f h2 x y) h2).bind fun t h3 =>
      if t then (pc.v ρ h3).bind fun z h4 => R.opt ((f' h4 y z).map D.bl) h4 else .ok (.bl false) h3).bind g) Q' →
      (∀ (k : Bool) (H' : Hp) (J' : Jn) (h' : Hh), RE X.K J' H' ρ σ → RH X.K J' h' H' → Post X.K J' H' Rl (g (.bl k) h') Q' → Q (.bl k) H') →
      tChain (rCmp X.K f) (rCmp X.K f') (tG X.K (rD X.K) pa.v) (tG X.K (rD X.K) pb.v) (tG X.K (rD X.K) pc.v) σ H Q := by
    intro σ H ρ h J Q α β Rl g Q' re rh q fin
    simp only [R.bind_assoc] at q
    refine (Post.step (R1 := rD X.K) (f := pa.v) re rh q).mono fun x H1 ⟨J1, h1, dx, e1, re1, rh1, rx, q1⟩ => ?_
    refine (Post.step (R1 := rD X.K) (f := pb.v) re1 rh1 q1).mono fun y H2 ⟨J2, h2, dy, e2, re2, rh2, ry, q2⟩ => ?_
    cases hd : f h2 dx dy with
    | none => rw [hd] at q2; exact False.elim q2
    | some k =>
      rw [hd] at q2
      refine ⟨J2, h2, dx, dy, k, rh2, rx.ext e2, ry, hd, k, rfl, ?_⟩
      cases k with
      | false => exact fin false H2 J2 h2 re2 rh2 q2
      | true =>
        simp only [R.opt_some, R.bind_ok, if_true, R.bind_assoc] at q2 ⊢
        refine (Post.step (R1 := rD X.K) (f := pc.v) re2 rh2 q2).mono fun z H3 ⟨J3, h3, dz, e3, re3, rh3, rz, q3⟩ => ?_
        cases hd' : f' h3 dy dz with
        | none => rw [hd'] at q3; exact False.elim q3
        | some k' => rw [hd'] at q3; exact ⟨J3, h3, dy, dz, k', rh3, ry.ext e3, rz, hd', fin k' H3 J3 h3 re3 rh3 q3⟩
  have hm : lastMarks [op, op'] [b, c] = false := plain_mark hp _
  refine ⟨(pe_chain ho ho' ha.v hb.v hc.v hm).imp fun σ H Q ⟨ρ, h, J, re, rh, q⟩ => ?_, (pt_chain ho ho' ha.v hb.v hc.v hm).imp fun σ H Q ⟨ρ, h, J, re, rh, q⟩ => ?_⟩
  · have as2 : ∀ r : R D, r = r.bind fun x h => .ok x h := fun r => by cases r <;> rfl
    dsimp only [P.plain] at q
    rw [as2 ((pa.v ρ h).bind _)] at q
    exact core re rh q fun k H' J' h' _ rh' q' => q' J' H' _ Ext.refl rh' (.bl k)
  · exact core re rh q fun k H' J' h' _ rh' q' => ⟨k, rfl, q' J' H' k Ext.refl rh' rfl⟩

/-! ### and, or, not -/
theorem vBl_inv {α β : Type} {Rl : RelA α β} {J : Jn} {H : Hp} {d : D} {v : V} {h : Hh} {g : Bool → Hh → R α} {Q : β → Hp → Prop} (r : RD X.K J H d v) (q : Post X.K J H Rl ((vBl d h).bind g) Q) : ∃ t, v = .bl t ∧ Post X.K J H Rl (g t h) Q := by
  cases d with
  | bl t => exact ⟨t, r.bl_inv, q⟩
  | _ => exact False.elim q
theorem isEmpty_cons_false {es : List Expr} (h : es.isEmpty = false) : ∃ b r, es = b :: r := by
  cases es with
  | nil => cases h
  | cons b r => exact ⟨b, r, rfl⟩
theorem ses_nil : SEs X [] ⟨true, fun _ h => .ok [] h, fun _ _ => .bad, fun _ _ => .bad, fun _ _ => .bad, fun _ _ => .bad⟩ where
  l := pa_nil.imp fun σ H Q ⟨ρ, h, J, re, rh, q⟩ => q J H [] Ext.refl rh .nil
  nil := rfl
  kw := fun kws e => by
    cases kws with
    | nil => exact ⟨fun pos pins s σ H Q I ⟨ρ, h, J, re, rh, q⟩ => pk_nil.run pos pins s σ H Q I (q J H [] Ext.refl rh .nil)⟩
    | cons _ _ => cases e
  an := fun _ => ⟨fun _ _ _ _ _ _ ⟨_, _, _, _, _, q⟩ => False.elim q⟩
  on := fun _ => ⟨fun _ _ _ _ _ _ ⟨_, _, _, _, _, q⟩ => False.elim q⟩
  at_ := fun _ => ⟨fun _ _ _ _ _ _ _ ⟨_, _, _, _, _, q⟩ => False.elim q⟩
  ot := fun _ => ⟨fun _ _ _ _ _ _ _ ⟨_, _, _, _, _, q⟩ => False.elim q⟩
/-- and, of one and more -/
theorem pe_andV {es : List Expr} {pl : PL} (ha : SE X a pa) (hl : SEs X es pl) (hn : es.isEmpty = false) :
    PE X (.BoolOp .And (a :: es) pos) (tG X.K (rD X.K) fun ρ h => (pa.v ρ h).bind fun x h1 => (vBl x h1).bind fun t h2 => if t then pl.an ρ h2 else .ok (.bl false) h2) := by
  obtain ⟨b, r, rfl⟩ := isEmpty_cons_false hn
  refine (pe_and ha.v (hl.an pos)).imp fun σ H Q ⟨ρ, h, J, re, rh, q⟩ => ?_
  refine (Post.step (R1 := rD X.K) (f := pa.v) re rh q).mono fun x H1 ⟨J1, h1, dx, e1, re1, rh1, rx, q1⟩ => ?_
  obtain ⟨t, rfl, q2⟩ := vBl_inv rx q1
  refine ⟨t, rfl, ?_⟩
  cases t with
  | true => exact ⟨ρ, h1, J1, re1, rh1, q2⟩
  | false => exact q2 J1 H1 _ Ext.refl rh1 (.bl false)
theorem pe_orV {es : List Expr} {pl : PL} (ha : SE X a pa) (hl : SEs X es pl) (hn : es.isEmpty = false) :
    PE X (.BoolOp .Or (a :: es) pos) (tG X.K (rD X.K) fun ρ h => (pa.v ρ h).bind fun x h1 => (vBl x h1).bind fun t h2 => if t then .ok (.bl true) h2 else pl.on ρ h2) := by
  obtain ⟨b, r, rfl⟩ := isEmpty_cons_false hn
  refine (pe_or ha.v (hl.on pos)).imp fun σ H Q ⟨ρ, h, J, re, rh, q⟩ => ?_
  refine (Post.step (R1 := rD X.K) (f := pa.v) re rh q).mono fun x H1 ⟨J1, h1, dx, e1, re1, rh1, rx, q1⟩ => ?_
  obtain ⟨t, rfl, q2⟩ := vBl_inv rx q1
  refine ⟨t, rfl, ?_⟩
  cases t with
  | false => exact ⟨ρ, h1, J1, re1, rh1, q2⟩
  | true => exact q2 J1 H1 _ Ext.refl rh1 (.bl true)
theorem pw_andV {es : List Expr} {pl : PL} (ha : SE X a pa) (hl : SEs X es pl) (hn : es.isEmpty = false) :
    PW X (.BoolOp .And (a :: es) pos) (tG X.K rB fun ρ h => (pa.t ρ h).bind fun t h1 => if t then pl.at_ ρ h1 else .ok false h1) := by
  obtain ⟨b, r, rfl⟩ := isEmpty_cons_false hn
  refine (pw_and ha.t (hl.at_ pos)).imp fun σ H Q ⟨ρ, h, J, re, rh, q⟩ => ?_
  refine (Post.step (R1 := rB) (f := pa.t) re rh q).mono fun x H1 ⟨J1, h1, t, e1, re1, rh1, rx, q1⟩ => ?_
  have rx : t = x := rx
  subst rx
  cases t with
  | true => exact ⟨ρ, h1, J1, re1, rh1, q1⟩
  | false => exact q1 J1 H1 _ Ext.refl rh1 rfl
theorem pw_orV {es : List Expr} {pl : PL} (ha : SE X a pa) (hl : SEs X es pl) (hn : es.isEmpty = false) :
    PW X (.BoolOp .Or (a :: es) pos) (tG X.K rB fun ρ h => (pa.t ρ h).bind fun t h1 => if t then .ok true h1 else pl.ot ρ h1) := by
  obtain ⟨b, r, rfl⟩ := isEmpty_cons_false hn
  refine (pw_or ha.t (hl.ot pos)).imp fun σ H Q ⟨ρ, h, J, re, rh, q⟩ => ?_
  refine (Post.step (R1 := rB) (f := pa.t) re rh q).mono fun x H1 ⟨J1, h1, t, e1, re1, rh1, rx, q1⟩ => ?_
  have rx : t = x := rx
  subst rx
  cases t with
  | false => exact ⟨ρ, h1, J1, re1, rh1, q1⟩
  | true => exact q1 J1 H1 _ Ext.refl rh1 rfl
theorem ses_cons {es : List Expr} {pl : PL} (hp : plainX a = true) (ha : SE X a pa) (hl : SEs X es pl) : SEs X (a :: es) ⟨false,
      fun ρ h => (pa.v ρ h).bind fun x h1 => (pl.l ρ h1).bind fun xs h2 => .ok (x :: xs) h2,
      fun ρ h => if pl.nil then pa.v ρ h else (pa.v ρ h).bind fun x h1 => (vBl x h1).bind fun t h2 => if t then pl.an ρ h2 else .ok (.bl false) h2,
      fun ρ h => if pl.nil then pa.v ρ h else (pa.v ρ h).bind fun x h1 => (vBl x h1).bind fun t h2 => if t then .ok (.bl true) h2 else pl.on ρ h2,
      fun ρ h => if pl.nil then pa.t ρ h else (pa.t ρ h).bind fun t h1 => if t then pl.at_ ρ h1 else .ok false h1,
      fun ρ h => if pl.nil then pa.t ρ h else (pa.t ρ h).bind fun t h1 => if t then .ok true h1 else pl.ot ρ h1⟩ := by
  refine ⟨(pa_cons ha.v hl.l (plain_star hp _ _)).imp fun σ H Q ⟨ρ, h, J, re, rh, q⟩ => ?_, rfl, fun kws ek => ?_, fun pos => ?_, fun pos => ?_, fun pos => ?_, fun pos => ?_⟩
  · refine (Post.step (R1 := rD X.K) (f := pa.v) re rh q).mono fun x H1 ⟨J1, h1, dx, e1, re1, rh1, rx, q1⟩ => ?_
    refine (Post.step (R1 := rDs X.K) (f := pl.l) re1 rh1 q1).mono fun xs H2 ⟨J2, h2, ds, e2, re2, rh2, rs, q2⟩ => ?_
    exact q2 J2 H2 _ Ext.refl rh2 (.cons (rx.ext e2) rs)
  · cases kws with
    | nil => cases ek
    | cons k kws =>
      obtain ⟨nm, e, kp⟩ := k
      simp only [List.map_cons, List.cons.injEq] at ek
      obtain ⟨rfl, ek⟩ := ek
      refine ⟨fun pos pins s σ H Q I ⟨ρ, h, J, re, rh, q⟩ => (pk_cons ha.v (hl.kw kws ek)).run pos pins s σ H Q I ?_⟩
      refine (Post.step (R1 := rD X.K) (f := pa.v) re rh q).mono fun x H1 ⟨J1, h1, dx, e1, re1, rh1, rx, q1⟩ => ?_
      refine (Post.step (R1 := rDs X.K) (f := pl.l) re1 rh1 q1).mono fun xs H2 ⟨J2, h2, ds, e2, re2, rh2, rs, q2⟩ => ?_
      exact q2 J2 H2 _ Ext.refl rh2 (.cons (rx.ext e2) rs)
  all_goals
    cases hn : es.isEmpty with
    | true =>
      have he : es = [] := by cases es with | nil => rfl | cons _ _ => cases hn
      subst he
      simp only [hl.nil, hn, if_true]
      first | exact pe_one ha.v | exact pw_and1 ha.t | exact pw_or1 ha.t
    | false =>
      simp only [hl.nil, hn, Bool.false_eq_true, if_false]
      first | exact pe_andV ha hl hn | exact pe_orV ha hl hn | exact pw_andV ha hl hn | exact pw_orV ha hl hn
theorem se_and {es : List Expr} {pl : PL} (ha : SE X a pa) (hl : SEs X es pl) (hn : es.isEmpty = false) : SE X (.BoolOp .And (a :: es) pos) ⟨fun ρ h => (pa.v ρ h).bind fun x h1 => (vBl x h1).bind fun t h2 => if t then pl.an ρ h2 else .ok (.bl false) h2,
    fun ρ h => (pa.t ρ h).bind fun t h1 => if t then pl.at_ ρ h1 else .ok false h1⟩ := ⟨pe_andV ha hl hn, (pw_andV ha hl hn).pt⟩
theorem se_or {es : List Expr} {pl : PL} (ha : SE X a pa) (hl : SEs X es pl) (hn : es.isEmpty = false) : SE X (.BoolOp .Or (a :: es) pos) ⟨fun ρ h => (pa.v ρ h).bind fun x h1 => (vBl x h1).bind fun t h2 => if t then .ok (.bl true) h2 else pl.on ρ h2,
    fun ρ h => (pa.t ρ h).bind fun t h1 => if t then .ok true h1 else pl.ot ρ h1⟩ := ⟨pe_orV ha hl hn, (pw_orV ha hl hn).pt⟩
theorem se_not (ha : SE X a pa) : SE X (.UnaryOp .Not a pos) ⟨fun ρ h => (pa.v ρ h).bind fun x h1 => (vBl x h1).bind fun t h2 => .ok (.bl (!t)) h2, fun ρ h => (pa.t ρ h).bind fun t h1 => .ok (!t) h1⟩ := by
  refine ⟨(pe_not ha.v).imp fun σ H Q ⟨ρ, h, J, re, rh, q⟩ => ?_, (pt_not ha.t).imp fun σ H Q ⟨ρ, h, J, re, rh, q⟩ => ?_⟩
  · refine (Post.step (R1 := rD X.K) (f := pa.v) re rh q).mono fun x H1 ⟨J1, h1, dx, e1, re1, rh1, rx, q1⟩ => ?_
    obtain ⟨t, rfl, q2⟩ := vBl_inv rx q1
    exact ⟨t, rfl, q2 J1 H1 _ Ext.refl rh1 (.bl _)⟩
  · refine (Post.step (R1 := rB) (f := pa.t) re rh q).mono fun x H1 ⟨J1, h1, t, e1, re1, rh1, rx, q1⟩ => ?_
    cases rx
    exact q1 J1 H1 _ Ext.refl rh1 rfl
theorem se_neg (ha : SE X a pa) : SE X (.UnaryOp .USub a pos) (.plain fun ρ h => (pa.v ρ h).bind fun x h1 => R.opt (x.isInt.map fun i => .int (-i)) h1) := by
  refine SE.plain ((pe_un un_neg ha.v).imp fun σ H Q ⟨ρ, h, J, re, rh, q⟩ => ?_) (fun _ => rfl)
  refine (Post.step (R1 := rD X.K) (f := pa.v) re rh q).mono fun x H1 ⟨J1, h1, dx, e1, re1, rh1, rx, q1⟩ => ?_
  cases dx with
  | int i => exact ⟨i, rx.int_inv, q1 J1 H1 _ Ext.refl rh1 (.int _)⟩
  | _ => exact False.elim q1
theorem isTrue_if {c : Expr} {M : Model} {A : Around} {E : Value → Shared → Prop} {s : Shared} {env : PySem.Env} {whole : Sem Value} {Q : Bool → Shared → Prop}
    (h : wpAny M A (isTrue c env (eval c env)) (fun t s' => if t = true then wpAny M A (isTrue a env (eval a env)) Q E s' else wpAny M A (isTrue b env (eval b env)) Q E s') E s) : wpAny M A (isTrue (.IfExp c a b pos) env whole) Q E s := by
  show wpAny M A (do if ← isTrue c env (eval c env) then isTrue a env (eval a env) else isTrue b env (eval b env)) Q E s
  refine wpAny_bind (wpAny_mono h (fun t s' q => ?_) fun _ _ z => z)
  cases t with
  | true => exact q
  | false => exact q
theorem se_ite {c : Expr} (hc : SE X c pc) (ha : SE X a pa) (hb : SE X b pb) : SE X (.IfExp c a b pos) ⟨fun ρ h => (pc.t ρ h).bind fun t h1 => if t then pa.v ρ h1 else pb.v ρ h1, fun ρ h => (pc.t ρ h).bind fun t h1 => if t then pa.t ρ h1 else pb.t ρ h1⟩ := by
  refine ⟨(pe_ifExp hc.t ha.v hb.v).imp fun σ H Q ⟨ρ, h, J, re, rh, q⟩ => ?_, ⟨fun pins s σ H Q I ⟨ρ, h, J, re, rh, q⟩ => isTrue_if ?_⟩⟩
  · refine (Post.step (R1 := rB) (f := pc.t) re rh q).mono fun x H1 ⟨J1, h1, t, e1, re1, rh1, rx, q1⟩ => ?_
    have rx : t = x := rx
    subst rx
    cases t with
    | true => exact ⟨ρ, h1, J1, re1, rh1, q1⟩
    | false => exact ⟨ρ, h1, J1, re1, rh1, q1⟩
  · refine thn (hc.t.run pins s σ H _ I (Post.step (R1 := rB) (f := pc.t) re rh q)) fun t s' ⟨H1, I1, J1, h1, t', e1, re1, rh1, rx, q1⟩ => ?_
    have rx : t' = t := rx
    subst rx
    cases t' with
    | true => exact ha.t.run pins s' σ H1 Q I1 ⟨ρ, h1, J1, re1, rh1, q1⟩
    | false => exact hb.t.run pins s' σ H1 Q I1 ⟨ρ, h1, J1, re1, rh1, q1⟩

/-! ### subscripts, slices, displays -/
theorem se_idx (hu : X.A.units + 200 < cLine) (hp : plainX b = true) (ha : SE X a pa) (hb : SE X b pb) : SE X (.Subscript a b pos) (.plain fun ρ h => (pa.v ρ h).bind fun x h1 => (pb.v ρ h1).bind fun y h2 => R.opt (opIdx h2 x y) h2) := by
  refine SE.plain ((pe_ix (ix_all (by omega)) ha.v hb.v (plain_ix hp)).imp fun σ H Q ⟨ρ, h, J, re, rh, q⟩ => ?_) (fun _ => rfl)
  refine (Post.step (R1 := rD X.K) (f := pa.v) re rh q).mono fun x H1 ⟨J1, h1, dx, e1, re1, rh1, rx, q1⟩ => ?_
  refine (Post.step (R1 := rD X.K) (f := pb.v) re1 rh1 q1).mono fun y H2 ⟨J2, h2, dy, e2, re2, rh2, ry, q2⟩ => ?_
  obtain ⟨d, hd, q3⟩ := Post.optX q2
  exact ⟨J2, h2, dx, dy, d, rh2, rx.ext e2, ry, hd, q3⟩
abbrev rO : RelA (Option Int) (Option Int) := fun _ _ a b => a = b
theorem so_none {pl : P} : PO X none (tG X.K rO (vPart true pl)) :=
  ⟨fun pins s σ H Q I ⟨ρ, h, J, re, rh, q⟩ => po_none.run pins s σ H Q I (q J H none Ext.refl rh rfl)⟩
theorem so_some (ha : SE X a pa) : PO X (some a) (tG X.K rO (vPart false pa)) := by
  refine ⟨fun pins s σ H Q I ⟨ρ, h, J, re, rh, q⟩ => (po_some ha.v).run pins s σ H Q I ?_⟩
  have q' : Post X.K J H rO ((pa.v ρ h).bind fun d h1 => R.opt (d.isInt.map some) h1) Q := q
  refine (Post.step (R1 := rD X.K) (f := pa.v) re rh q').mono fun x H1 ⟨J1, h1, d, e1, re1, rh1, rx, q1⟩ => ?_
  cases d with
  | int i => exact ⟨i, rx.int_inv, q1 J1 H1 _ Ext.refl rh1 rfl⟩
  | _ => exact False.elim q1
theorem se_slc {lo hi : Option Expr} {pl ph : P} {ml mh : Bool} {sp : Pos} (ha : SE X a pa) (hl : PO X lo (tG X.K rO (vPart ml pl))) (hh : PO X hi (tG X.K rO (vPart mh ph))) :
    SE X (.Subscript a (.Slice lo hi none sp) pos) (.plain fun ρ h => (pa.v ρ h).bind fun x h1 => (vPart ml pl ρ h1).bind fun l h2 => (vPart mh ph ρ h2).bind fun u h3 => R.opt (opSlc h3 x l u) h3) := by
  refine SE.plain ((pe_slice sl_all ha.v hl hh).imp fun σ H Q ⟨ρ, h, J, re, rh, q⟩ => ?_) (fun _ => rfl)
  refine (Post.step (R1 := rD X.K) (f := pa.v) re rh q).mono fun x H1 ⟨J1, h1, dx, e1, re1, rh1, rx, q1⟩ => ?_
  refine (Post.step (R1 := rO) (f := vPart ml pl) re1 rh1 q1).mono fun y H2 ⟨J2, h2, l, e2, re2, rh2, ry, q2⟩ => ?_
  refine (Post.step (R1 := rO) (f := vPart mh ph) re2 rh2 q2).mono fun z H3 ⟨J3, h3, u, e3, re3, rh3, rz, q3⟩ => ?_
  have ry : l = y := ry
  have rz : u = z := rz
  subst ry rz
  obtain ⟨d, hd, q4⟩ := Post.optX q3
  exact ⟨J3, h3, dx, d, rh3, (rx.ext e2).ext e3, hd, q4⟩
theorem se_tup {es : List Expr} {pl : PL} {k : Nat} (hl : SEs X es pl) : SE X (.Tuple es k pos) (.plain fun ρ h => (pl.l ρ h).bind fun xs h1 => if sizeOk xs.length then .ok (.tup xs) h1 else .bad) := by
  refine SE.plain ((pe_tup hl.l).imp fun σ H Q ⟨ρ, h, J, re, rh, q⟩ => ?_) (fun _ => rfl)
  refine (Post.step (R1 := rDs X.K) (f := pl.l) re rh q).mono fun xs H1 ⟨J1, h1, ds, e1, re1, rh1, rs, q1⟩ => ?_
  split at q1
  · rename_i hz
    have hz' : xs.length ≤ sizeLine := by rw [← rs.length]; exact size_of hz
    exact ⟨hz', fun p np => q1 _ _ _ (Ext.laid np) (rh1.laid np) (RD.newTup rh1 np rs hz')⟩
  · exact False.elim q1

/-! ### new lists -/
/-- a reading that ends in a new list -/
def tF (K : PySem.W.Frag) (v : Env → Hh → R D) : TE := fun σ H Q => ∃ ρ h J, RE K J H ρ σ ∧ RH K J h H ∧ match v ρ h with
  | .ok (.lst ds) h' => ∀ J' H' a vs, Ext J H ⟨J'.l, J.z⟩ H' → J'.z = a :: J.z → RH K J' h' H' → H' a = some (.lst vs) → vs.length ≤ sizeLine → RDs K J' H' ds vs → H a = none → Q (.ref a) H'
  | _ => False
theorem tF_of {K : PySem.W.Frag} {v : Env → Hh → R D} {σ : L2.St} {H : Hp} {Q : VK} (hl : ∀ ρ h d h', v ρ h = .ok d h' → ∃ ds, d = .lst ds) (t : tG K (rD K) v σ H Q) : tF K v σ H Q := by
  obtain ⟨ρ, h, J, re, rh, q⟩ := t
  refine ⟨ρ, h, J, re, rh, ?_⟩
  cases ev : v ρ h with
  | ok d h' =>
    rw [ev] at q
    obtain ⟨ds, rfl⟩ := hl ρ h d h' ev
    intro J' H' a vs e ez rh' ha hz rs na
    obtain ⟨l', z'⟩ := J'
    simp only at ez e
    subst ez
    exact q _ H' _ e (rh'.show_ (J := ⟨l', J.z⟩)) (.lst (rh'.apart a List.mem_cons_self) (fun z => rh.notz na z) ha hz (rs.sub (Sub.show_ (J := ⟨l', J.z⟩))))
  | bad => rw [ev] at q; exact q
  | err _ _ => rw [ev] at q; exact q
theorem tF_val {v : Env → Hh → R D} (hv : PE X e (tF X.K v)) (hl : ∀ ρ h d h', v ρ h = .ok d h' → ∃ ds, d = .lst ds) : PE X e (tG X.K (rD X.K) v) := hv.imp fun σ H Q t => tF_of hl t
theorem se_lstF {es : List Expr} {pl : PL} (hl : SEs X es pl) : PE X (.List es pos) (tF X.K fun ρ h => (pl.l ρ h).bind fun xs h1 => if sizeOk xs.length then .ok (.lst xs) h1 else .bad) := by
  refine (pe_lst hl.l).imp fun σ H Q ⟨ρ, h, J, re, rh, q⟩ => ?_
  refine ⟨ρ, h, J, re, rh, ?_⟩
  dsimp only at q
  cases ev : pl.l ρ h with
  | ok ds h1 =>
    rw [ev, R.bind_ok] at q
    split at q
    · rename_i ds' h1' heq
      split at heq
      · rename_i hz; cases heq
        intro J1 H1 vs e1 rh1 rs
        have hz' : vs.length ≤ sizeLine := by rw [← rs.length]; exact size_of hz
        refine ⟨hz', fun p np => ?_⟩
        refine q (J1.hide p) _ p vs ⟨rfl, ?_, ?_⟩ ?_ (rh1.hide np) upd_same hz' ((rs.sub (Sub.hide np)).ext (Ext.laid np)) ?_
        · exact e1.pre
        · intro a o n q; rw [upd_ne (ne_of_none (e1.keep a o n q) np)]; exact e1.keep a o n q
        · show p :: J1.z = p :: J.z; rw [e1.z]
        · cases hp : H p with
          | none => rfl
          | some u =>
            exfalso
            by_cases n : p ∈ J.l
            · obtain ⟨m, hm, _⟩ := e1.pre
              obtain ⟨u', h2⟩ := rh1.inl (a := p) (by rw [hm]; exact List.mem_append_left _ n)
              rw [np] at h2; cases h2
            · have := e1.keep p u n hp; rw [np] at this; cases this
      · cases heq
    · exact False.elim q
  | bad => rw [ev] at q; exact False.elim q
  | err _ _ => rw [ev] at q; exact False.elim q
theorem se_lst {es : List Expr} {pl : PL} (hl : SEs X es pl) : SE X (.List es pos) (.plain fun ρ h => (pl.l ρ h).bind fun xs h1 => if sizeOk xs.length then .ok (.lst xs) h1 else .bad) := by
  refine SE.plain (tF_val (se_lstF hl) fun ρ h d h' e => ?_) (fun _ => rfl)
  cases ev : pl.l ρ h with
  | ok ds h1 =>
    rw [ev, R.bind_ok] at e
    split at e
    · cases e; exact ⟨_, rfl⟩
    · cases e
  | bad => rw [ev] at e; cases e
  | err _ _ => rw [ev] at e; cases e
/-- .. that becomes an object -/
theorem tF_new {K : PySem.W.Frag} {v : Env → Hh → R D} {σ : L2.St} {H : Hp} {Q : VK} (t : tG K (rD K) (fun ρ h => (v ρ h).bind newObj) σ H Q) : tF K v σ H Q := by
  obtain ⟨ρ, h, J, re, rh, q⟩ := t
  refine ⟨ρ, h, J, re, rh, ?_⟩
  dsimp only at q
  cases ev : v ρ h with
  | ok d h' =>
    rw [ev, R.bind_ok] at q
    cases d with
    | lst ds =>
      intro J' H' a vs e ez rh' ha hz rs na
      obtain ⟨l', z'⟩ := J'
      simp only at ez e
      subst ez
      have rh2 : RH K (Jn.own ⟨l', J.z⟩ a) (h' ++ [.lst ds]) H' := rh'.own (J := ⟨l', J.z⟩) (fun z => rh.notz na z) ha (.lst hz rs)
      refine q _ H' _ (Ext.own (J' := ⟨l', J.z⟩) na e) rh2 (.ref ?_)
      show (l' ++ [a])[h'.length]? = some a
      have hl : l'.length = h'.length := rh'.len
      rw [← hl, List.getElem?_append_right (Nat.le_refl _)]; simp
    | _ => exact False.elim q
  | bad => rw [ev] at q; exact False.elim q
  | err _ _ => rw [ev] at q; exact False.elim q
theorem se_new {v : Env → Hh → R D} (hv : PE X e (tF X.K v)) (he : ∀ whole, isTrue e X.env whole = (do let v ← whole; standAt e.pos; holding [v] (truthy v))) : SE X e (.plain fun ρ h => (v ρ h).bind newObj) :=
  SE.plain (hv.imp fun σ H Q t => tF_new t) he
end
end PV
end

section
set_option maxRecDepth 100000
namespace PV
open L2 PySem PySem.Spec PyProof.Rows
mutual
theorem same_eq : ∀ x y : D, D.same x y = true → x = y
  | .non, y, h => by cases y <;> simp [D.same] at h; rfl
  | .bl a, y, h => by cases y <;> simp [D.same] at h; rw [h]
  | .int a, y, h => by cases y <;> simp [D.same] at h; rw [h]
  | .str a, y, h => by cases y <;> simp [D.same] at h; rw [h]
  | .ref a, y, h => by cases y <;> simp [D.same] at h; rw [h]
  | .tup a, y, h => by
    cases y with
    | tup b => simp only [D.same] at h; rw [sames_eq a b h]
    | _ => simp [D.same] at h
  | .lst a, y, h => by
    cases y with
    | lst b => simp only [D.same] at h; rw [sames_eq a b h]
    | _ => simp [D.same] at h
  | .ftup a, y, h => by cases y <;> simp [D.same] at h
  | .fz a, y, h => by
    cases y with
    | fz b => simp only [D.same] at h; rw [sames_eq a b h]
    | _ => simp [D.same] at h
theorem sames_eq : ∀ xs ys : List D, D.sames xs ys = true → xs = ys
  | [], [], _ => rfl
  | [], _ :: _, h => by simp [D.sames] at h
  | _ :: _, [], h => by simp [D.sames] at h
  | x :: xs, y :: ys, h => by
    simp only [D.sames, Bool.and_eq_true] at h
    rw [same_eq x y h.1, sames_eq xs ys h.2]
end
theorem Ext.sub {J J' : Jn} {H H' : Hp} (e : Ext J H J' H') : Sub J H J' H' := ⟨fun a o n m q => ⟨e.notin n q, by rw [e.z]; exact m, e.keep a o n q⟩, fun _ _ q => e.get q⟩
theorem Sub.trans {J J' J2 : Jn} {H H' H2 : Hp} (e : Sub J H J' H') (f : Sub J' H' J2 H2) : Sub J H J2 H2 :=
  ⟨fun a o n m q => let ⟨x, y, z⟩ := e.l a o n m q; f.l a o x y z, fun i a q => f.get i a (e.get i a q)⟩
theorem Sub.refl {J : Jn} {H : Hp} : Sub J H J H := ⟨fun a o n m q => ⟨n, m, q⟩, fun _ _ q => q⟩

/-! ### iterators -/
structure ItOk (K : PySem.W.Frag) (J : Jn) (H : Hp) (it : It) (src : Src) : Prop where
  go : ∀ {J2 : Jn} {h2 : Hh} {H2 : Hp} {i : Nat} {d : D}, Sub J H J2 H2 → RH K J2 h2 H2 → src.good h2 = true → src.items[i]? = some d → it.go i H2 ∧ ∀ x H3, it.yld i H2 x H3 → Ext J2 H2 J2 H3 ∧ RH K J2 h2 H3 ∧ RD K J2 H3 d x
  stop : ∀ {J2 : Jn} {h2 : Hh} {H2 : Hp}, Sub J H J2 H2 → RH K J2 h2 H2 → src.good h2 = true → it.stop src.items.length H2
def tI (K : PySem.W.Frag) (f : Env → Hh → R Src) : TI := fun σ H Rr => ∃ ρ h J, RE K J H ρ σ ∧ RH K J h H ∧ match f ρ h with
  | .ok src h' => ∀ J' H' it, Ext J H J' H' → RH K J' h' H' → ItOk K J' H' it src → Rr it H'
  | _ => False
section
variable {X : Cx} {e x a b tg : Expr} {p pa pb pc : P} {pos : Pos} {K : PySem.W.Frag} {J : Jn} {H : Hp} {h : Hh}
theorem itl_ok {a : Addr} {ds : List D} {vs : List V} (st : ∀ {J2 : Jn} {H2 : Hp}, Sub J H J2 H2 → SqL K H2 a vs) (r : RDs K J H ds vs) : ItOk K J H (Itl K a) ⟨ds, none⟩ := by
  refine ⟨fun {J2 h2 H2 i d} s rh _ hd => ?_, fun {J2 h2 H2} s rh _ => ⟨vs, st s, by rw [r.length]; exact Nat.le_refl _⟩⟩
  obtain ⟨v, hv, rv⟩ := r.get hd
  refine ⟨⟨vs, v, st s, hv⟩, fun x H3 ⟨e1, e2⟩ => ?_⟩
  subst e1
  have := e2 vs (st s)
  rw [hv] at this; cases this
  exact ⟨Ext.refl, rh, rv.sub s⟩
theorem itt_ok {a : Addr} {ds : List D} {vs : List V} (q : ∀ {J2 : Jn} {H2 : Hp}, Sub J H J2 H2 → SqT K H2 a vs) (r : RDs K J H ds vs) : ItOk K J H (Itt K a) ⟨ds, none⟩ := by
  refine ⟨fun {J2 h2 H2 i d} s rh _ hd => ?_, fun {J2 h2 H2} s rh _ => ⟨vs, q s, by rw [r.length]; exact Nat.le_refl _⟩⟩
  obtain ⟨v, hv, rv⟩ := r.get hd
  refine ⟨⟨vs, v, q s, hv⟩, fun x H3 ⟨e1, e2⟩ => ?_⟩
  subst e1
  have := e2 vs (q s)
  rw [hv] at this; cases this
  exact ⟨Ext.refl, rh, rv.sub s⟩
theorem itl_ref {i : Nat} {a : Addr} {ds : List D} (q : J.l[i]? = some a) : ItOk K J H (Itl K a) ⟨ds, some i⟩ := by
  have st : ∀ {J2 h2 H2}, Sub J H J2 H2 → RH K J2 h2 H2 → Src.good ⟨ds, some i⟩ h2 = true → ∃ vs, SqL K H2 a vs ∧ RDs K J2 H2 ds vs := fun {J2 h2 H2} s rh g => by
    obtain ⟨o, u, h1, h2', h3⟩ := rh.at (s.get i a q)
    simp only [Src.good, h1] at g
    cases h3 with
    | lst z r => have e := sames_eq _ _ g; subst e; exact ⟨_, .inl (.inl h2'), r⟩
    | dct z r => cases g
  refine ⟨fun {J2 h2 H2 j d} s rh g hd => ?_, fun {J2 h2 H2} s rh g => ?_⟩
  · obtain ⟨vs, hq, r⟩ := st s rh g
    obtain ⟨v, hv, rv⟩ := r.get hd
    refine ⟨⟨vs, v, hq, hv⟩, fun x H3 ⟨e1, e2⟩ => ?_⟩
    subst e1
    have := e2 vs hq
    rw [hv] at this; cases this
    exact ⟨Ext.refl, rh, rv⟩
  · obtain ⟨vs, hq, r⟩ := st s rh g
    exact ⟨vs, hq, by rw [r.length]; exact Nat.le_refl _⟩
theorem itr_ok {lo hi : Int} : ItOk K J H (Itr lo (hi - lo).toNat) ⟨rngD lo hi, none⟩ := by
  have hl : (rngD lo hi).length = (hi - lo).toNat := by simp [rngD]
  refine ⟨fun {J2 h2 H2 i d} s rh _ hd => ?_, fun {J2 h2 H2} s rh _ => by show _ ≤ _; rw [hl]; exact Nat.le_refl _⟩
  have hi' : i < (hi - lo).toNat := by rw [← hl]; exact (List.getElem?_eq_some_iff.mp hd).1
  refine ⟨hi', fun x H3 ⟨e1, e2⟩ => ?_⟩
  subst e1 e2
  refine ⟨Ext.refl, rh, ?_⟩
  simp only [rngD, List.getElem?_map, List.getElem?_range hi', Option.map_some, Option.some.injEq] at hd
  subst hd
  exact .int _
/-- the items that a value gives -/
theorem tup_st {ds : List D} {v : V} (r : RD K J H (.tup ds) v) : ∃ a vs, v = .ref a ∧ (∀ {J2 : Jn} {H2 : Hp}, Sub J H J2 H2 → SqT K H2 a vs) ∧ vs.length ≤ sizeLine ∧ RDs K J H ds vs := by
  cases r with
  | tup n m q z r => exact ⟨_, _, rfl, fun s => .inl (.inl (s.l _ _ n m q).2.2), z, r⟩
  | ktup k z r => exact ⟨_, _, rfl, fun _ => .inr k, z, r⟩
theorem lst_st {d : D} {ds : List D} {v : V} (hd : d = .lst ds ∨ d = .fz ds) (r : RD K J H d v) : ∃ a vs, v = .ref a ∧ (∀ {J2 : Jn} {H2 : Hp}, Sub J H J2 H2 → SqL K H2 a vs) ∧ vs.length ≤ sizeLine ∧ RDs K J H ds vs := by
  rcases hd with rfl | rfl
  · cases r with | lst n m q z r => exact ⟨_, _, rfl, fun s => .inl (.inl (s.l _ _ n m q).2.2), z, r⟩
  · cases r with
    | fz n m q z r => exact ⟨_, _, rfl, fun s => .inl (.inr ⟨_, (s.l _ _ n m q).2.2⟩), z, r⟩
    | kfz k z r => exact ⟨_, _, rfl, fun _ => .inr k, z, r⟩
theorem ftup_st {K : PySem.W.Frag} {J : Jn} {H : Hp} {ds : List D} {v : V} (r : RD K J H (.ftup ds) v) : ∃ p vs, v = .ref p ∧ (∀ {J2 : Jn} {H2 : Hp}, Sub J H J2 H2 → SqT K H2 p vs) ∧ vs.length ≤ sizeLine ∧ RDs K J H ds vs := by
  cases r with
  | ft n m q c d z rr => exact ⟨_, _, rfl, fun s => .inl (.inr ⟨_, (s.l _ _ n m q).2.2⟩), z, rr⟩
theorem PI.or {t u : TI} (h : PI X tg e t) (h' : PI X tg e u) : PI X tg e (fun σ H R => t σ H R ∨ u σ H R) := ⟨fun p s σ H R I q => q.elim (h.run p s σ H R I) (h'.run p s σ H R I)⟩
/-- a value that is walked: a list or a tuple -/
theorem pi_any (ha : PE X a (tG X.K (rD X.K) pa.v)) : PI X tg a (tI X.K fun ρ h => (pa.v ρ h).bind fun x h1 => R.opt (x.src h1) h1) := by
  refine ⟨fun pins s σ H Rr I ⟨ρ, h, J, re, rh, q⟩ => ?_⟩
  dsimp only at q
  cases ev : pa.v ρ h with
  | ok d h1 =>
    rw [ev, R.bind_ok] at q
    cases es : d.src h1 with
    | none => rw [es] at q; exact False.elim q
    | some src =>
      rw [es] at q
      have q : ∀ J' H' it, Ext J H J' H' → RH X.K J' h1 H' → ItOk X.K J' H' it src → Rr it H' := q
      have lists : (∃ ds, (d = .lst ds ∨ d = .fz ds) ∧ src = ⟨ds, none⟩) → wpAny (model X.prog X.w) X.A (eval a X.env) (fun v s1 => wpAny (model X.prog X.w) X.A (pyIter v) (PIE X pins σ tg Rr) X.xe s1) X.xe s := by
        rintro ⟨ds, hd, rfl⟩
        refine (pi_list ha).run pins s σ H Rr I ⟨ρ, h, J, re, rh, ?_⟩
        rw [ev]
        intro J' H' v e1 rh' rv
        obtain ⟨p, vs, rfl, hq, z, rr⟩ := lst_st hd rv
        exact ⟨p, rfl, ⟨vs, hq Sub.refl⟩, q J' H' _ e1 rh' (itl_ok hq rr)⟩
      cases d with
      | lst ds => cases es; exact lists ⟨ds, .inl rfl, rfl⟩
      | fz ds => cases es; exact lists ⟨ds, .inr rfl, rfl⟩
      | tup ds =>
        cases es
        refine (pi_tup ha).run pins s σ H Rr I ⟨ρ, h, J, re, rh, ?_⟩
        rw [ev]
        intro J' H' v e1 rh' rv
        obtain ⟨p, vs, rfl, hq, z, rr⟩ := tup_st rv
        exact ⟨p, rfl, ⟨vs, hq Sub.refl⟩, q J' H' _ e1 rh' (itt_ok hq rr)⟩
      | ftup ds =>
        cases es
        refine (pi_tup ha).run pins s σ H Rr I ⟨ρ, h, J, re, rh, ?_⟩
        rw [ev]
        intro J' H' v e1 rh' rv
        obtain ⟨p, vs, rfl, hq, z, rr⟩ := ftup_st rv
        exact ⟨p, rfl, ⟨vs, hq Sub.refl⟩, q J' H' _ e1 rh' (itt_ok hq rr)⟩
      | ref i =>
        simp only [D.src] at es
        split at es
        · rename_i ys hys
          cases es
          refine (pi_list ha).run pins s σ H Rr I ⟨ρ, h, J, re, rh, ?_⟩
          rw [ev]
          intro J' H' v e1 rh' rv
          cases rv with
          | ref qi =>
            obtain ⟨o, u, h1', h2', h3⟩ := rh'.at qi
            rw [hys] at h1'; cases h1'
            cases h3 with
            | lst z rr => exact ⟨_, rfl, ⟨_, .inl (.inl h2')⟩, q J' H' _ e1 rh' (itl_ref qi)⟩
        · cases es
      | _ => cases es
  | bad => rw [ev] at q; exact False.elim q
  | err _ _ => rw [ev] at q; exact False.elim q
theorem rngOk_inv {i j : Int} (h : rngOk i j = true) : -(2 ^ 62) ≤ i ∧ i < 2 ^ 62 ∧ -(2 ^ 62) ≤ j ∧ j < 2 ^ 62 := by
  simp only [rngOk, Bool.and_eq_true, decide_eq_true_eq] at h
  exact ⟨h.1.1.1, h.1.1.2, h.1.2, h.2⟩
theorem R.step_inv {α β : Type} {r : R α} {f : α → Hh → R β} {P : R β → Prop} (q : P (r.bind f)) (hb : ¬ P .bad) (he : ∀ x h, ¬ P (.err x h)) : ∃ a h1, r = .ok a h1 ∧ P (f a h1) := by
  cases r with
  | ok a h1 => exact ⟨a, h1, rfl, q⟩
  | bad => exact absurd q hb
  | err x h => exact absurd q (he x h)
/-- what a walk's reading wants -/
def wI (K : PySem.W.Frag) (J : Jn) (H : Hp) (Rr : It → Hp → Prop) (r : R Src) : Prop := match r with
  | .ok src h' => ∀ J' H' it, Ext J H J' H' → RH K J' h' H' → ItOk K J' H' it src → Rr it H'
  | _ => False
theorem wI.step {α β : Type} {R1 : RelA α β} {f : Env → Hh → R α} {g : α → Hh → R Src} {Rr : It → Hp → Prop} {ρ : Env} {σ : L2.St} (re : RE K J H ρ σ) (rh : RH K J h H) (p : wI K J H Rr ((f ρ h).bind g)) :
    tG K R1 f σ H (fun b H1 => ∃ J1 h1 a, Ext J H J1 H1 ∧ RE K J1 H1 ρ σ ∧ RH K J1 h1 H1 ∧ R1 J1 H1 a b ∧ wI K J1 H1 Rr (g a h1)) := by
  refine ⟨ρ, h, J, re, rh, ?_⟩
  cases q : f ρ h with
  | ok a h1 =>
    rw [q, R.bind_ok] at p
    refine fun J1 H1 b e rh1 rl => ⟨J1, h1, a, e, re.ext e, rh1, rl, ?_⟩
    cases q2 : g a h1 with
    | ok src h2 => rw [q2] at p; exact fun J2 H2 it e2 rh2 ok => p J2 H2 it (e.trans rh rh1 e2) rh2 ok
    | bad => rw [q2] at p; exact p
    | err _ _ => rw [q2] at p; exact p
  | bad => rw [q] at p; exact p
  | err _ _ => rw [q] at p; exact p
theorem pi_rng {pp : Pos} (hg : Gl X "range") (hm : X.mg "range" = none) (hp : plainX a = true) (ha : SE X a pa) :
    PI X tg (.Call (.Name "range" pp) [a] [] pos) (tI X.K fun ρ h => (pa.v ρ h).bind fun x h1 => R.opt (x.isInt.bind fun n => if rngOk 0 n then some ⟨rngD 0 n, none⟩ else none) h1) := by
  have hs : starEach [a] X.env = [(false, eval a X.env)] := plain_star hp [] _
  refine (pi_range1 hg hm (pa_cons ha.v pa_nil hs) hs).imp fun σ H Rr ⟨ρ, h, J, re, rh, q⟩ => ?_
  refine (wI.step (R1 := rD X.K) (f := pa.v) re rh q).mono fun x H1 ⟨J1, h1, d, e1, re1, rh1, rx, q1⟩ => ?_
  cases d with
  | int n =>
    simp only [D.isInt, Option.bind_some] at q1
    split at q1
    · rename_i hz
      obtain ⟨_, _, z1, z2⟩ := rngOk_inv hz
      refine ⟨n, by rw [rx.int_inv], z1, z2, ?_⟩
      have := q1 J1 H1 (Itr 0 (n - 0).toNat) Ext.refl rh1 itr_ok
      rwa [Int.sub_zero] at this
    · exact False.elim q1
  | _ => exact False.elim q1
theorem pi_rng2 {pp : Pos} (hg : Gl X "range") (hm : X.mg "range" = none) (hp : plainX a = true) (hp2 : plainX b = true) (ha : SE X a pa) (hb : SE X b pb) :
    PI X tg (.Call (.Name "range" pp) [a, b] [] pos) (tI X.K fun ρ h => (pa.v ρ h).bind fun x h1 => (pb.v ρ h1).bind fun y h2 => R.opt (x.isInt.bind fun i => y.isInt.bind fun j => if rngOk i j then some ⟨rngD i j, none⟩ else none) h2) := by
  have hs2 : starEach [b] X.env = [(false, eval b X.env)] := plain_star hp2 [] _
  have hs : starEach [a, b] X.env = [(false, eval a X.env), (false, eval b X.env)] := by rw [plain_star hp, hs2]
  refine (pi_range2 hg hm (pa_cons ha.v (pa_cons hb.v pa_nil hs2) (plain_star hp _ _)) hs hs2).imp fun σ H Rr ⟨ρ, h, J, re, rh, q⟩ => ?_
  refine (wI.step (R1 := rD X.K) (f := pa.v) re rh q).mono fun x H1 ⟨J1, h1, d, e1, re1, rh1, rx, q1⟩ => ?_
  refine (wI.step (R1 := rD X.K) (f := pb.v) re1 rh1 q1).mono fun y H2 ⟨J2, h2, d2, e2, re2, rh2, ry, q2⟩ => ?_
  cases d with
  | int n =>
    cases d2 with
    | int m =>
      simp only [D.isInt, Option.bind_some] at q2
      split at q2
      · rename_i hz
        exact ⟨n, m, by rw [rx.int_inv, ry.int_inv], rngOk_inv hz, q2 J2 H2 _ Ext.refl rh2 itr_ok⟩
      · exact False.elim q2
    | _ => exact False.elim q2
  | _ => exact False.elim q2

theorem zipD_get {xs ys : List D} {i : Nat} {d : D} (e : (zipD xs ys)[i]? = some d) : ∃ x y, xs[i]? = some x ∧ ys[i]? = some y ∧ d = .tup [x, y] := by
  unfold zipD at e
  rw [List.getElem?_zipWith] at e
  split at e
  · rename_i x y hx hy; cases e; exact ⟨x, y, hx, hy, rfl⟩
  · cases e
theorem zipD_len (xs ys : List D) : xs.length ≤ (zipD xs ys).length ∨ ys.length ≤ (zipD xs ys).length := by
  unfold zipD; rw [List.length_zipWith]; omega
theorem two_ok {x y : V} : [x, y].length ≤ sizeLine := by show 2 ≤ sizeLine; decide
theorem itzT_ok {a b : Addr} {xs ys : List D} {vs ws : List V} (q : ∀ {J2 : Jn} {H2 : Hp}, Sub J H J2 H2 → SqT K H2 a vs) (r : RDs K J H xs vs) (q' : ∀ {J2 : Jn} {H2 : Hp}, Sub J H J2 H2 → SqT K H2 b ws) (r' : RDs K J H ys ws) :
    ItOk K J H (RZ.ItzT K a b) ⟨zipD xs ys, none⟩ := by
  refine ⟨fun {J2 h2 H2 i d} s rh _ hd => ?_, fun {J2 h2 H2} s rh _ => ⟨vs, ws, q s, q' s, by rw [← r.length, ← r'.length]; exact zipD_len xs ys⟩⟩
  obtain ⟨dx, dy, hx, hy, rfl⟩ := zipD_get hd
  obtain ⟨v, hv, rv⟩ := r.get hx
  obtain ⟨w, hw, rw'⟩ := r'.get hy
  refine ⟨⟨vs, ws, v, w, q s, q' s, hv, hw⟩, fun x H3 ⟨T, v', w', e1, nT, e2, f1, f2⟩ => ?_⟩
  have h1 := f1 vs (q s)
  have h2 := f2 ws (q' s)
  rw [hv] at h1; cases h1
  rw [hw] at h2; cases h2
  subst e1 e2
  exact ⟨Ext.laid nT, rh.laid nT, RD.newTup rh nT (.cons (rv.sub s) (.cons (rw'.sub s) .nil)) two_ok⟩
theorem itz_ok {a b : Addr} {xs ys : List D} {vs ws : List V} (q : ∀ {J2 : Jn} {H2 : Hp}, Sub J H J2 H2 → SqL K H2 a vs) (r : RDs K J H xs vs) (q' : ∀ {J2 : Jn} {H2 : Hp}, Sub J H J2 H2 → SqL K H2 b ws) (r' : RDs K J H ys ws) :
    ItOk K J H (Itz K a b) ⟨zipD xs ys, none⟩ := by
  refine ⟨fun {J2 h2 H2 i d} s rh _ hd => ?_, fun {J2 h2 H2} s rh _ => ⟨vs, ws, q s, q' s, by rw [← r.length, ← r'.length]; exact zipD_len xs ys⟩⟩
  obtain ⟨dx, dy, hx, hy, rfl⟩ := zipD_get hd
  obtain ⟨v, hv, rv⟩ := r.get hx
  obtain ⟨w, hw, rw'⟩ := r'.get hy
  refine ⟨⟨vs, ws, v, w, q s, q' s, hv, hw⟩, fun x H3 ⟨T, v', w', e1, nT, e2, f1, f2⟩ => ?_⟩
  have h1 := f1 vs (q s)
  have h2 := f2 ws (q' s)
  rw [hv] at h1; cases h1
  rw [hw] at h2; cases h2
  subst e1 e2
  exact ⟨Ext.laid nT, rh.laid nT, RD.newTup rh nT (.cons (rv.sub s) (.cons (rw'.sub s) .nil)) two_ok⟩
theorem lst_st2 {ds : List D} {v : V} (r : RD K J H (.lst ds) v) : ∃ a vs, v = .ref a ∧ (∀ {J2 : Jn} {H2 : Hp}, Sub J H J2 H2 → SqL K H2 a vs) ∧ RDs K J H ds vs := by
  cases r with | lst n m q z r => exact ⟨_, _, rfl, fun s => .inl (.inl (s.l _ _ n m q).2.2), r⟩
theorem pi_zipS {pp tp : Pos} {elts : List Expr} {kk : Nat} (hg : Gl X "zip") (hm : X.mg "zip" = none) (hp : plainX a = true) (hp2 : plainX b = true) (ha : SE X a pa) (hb : SE X b pb) :
    PI X (.Tuple elts kk tp) (.Call (.Name "zip" pp) [a, b] [] pos) (tI X.K fun ρ h => (pa.v ρ h).bind fun x h1 => (pb.v ρ h1).bind fun y h2 => R.opt (zipSrc x y) h2) := by
  have hs2 : starEach [b] X.env = (false, eval b X.env) :: starEach [] X.env := plain_star hp2 [] _
  refine (RZ.pi_zipA hg hm (pa_cons ha.v (pa_cons hb.v pa_nil hs2) (plain_star hp _ _)) (plain_star hp _ _) (by rw [hs2]; rfl)).imp fun σ H Rr ⟨ρ, h, J, re, rh, q⟩ => ?_
  refine (wI.step (R1 := rD X.K) (f := pa.v) re rh q).mono fun x H1 ⟨J1, h1, d, e1, re1, rh1, rx, q1⟩ => ?_
  refine (wI.step (R1 := rD X.K) (f := pb.v) re1 rh1 q1).mono fun y H2 ⟨J2, h2, d2, e2, re2, rh2, ry, q2⟩ => ?_
  have rx := rx.ext e2
  cases hz : zipSrc d d2 with
  | none => rw [hz] at q2; exact False.elim q2
  | some src =>
    rw [hz] at q2
    unfold zipSrc at hz
    split at hz
    · cases hz
      obtain ⟨p, vs, rfl, hq, z, rr⟩ := tup_st rx
      obtain ⟨p', ws, rfl, hq', z', rr'⟩ := tup_st ry
      exact ⟨p, p', vs, ws, rfl, .inr ⟨hq Sub.refl, hq' Sub.refl, q2 J2 H2 _ Ext.refl rh2 (itzT_ok hq rr hq' rr')⟩⟩
    · cases hz
      obtain ⟨p, vs, rfl, hq, rr⟩ := lst_st2 rx
      obtain ⟨p', ws, rfl, hq', rr'⟩ := lst_st2 ry
      exact ⟨p, p', vs, ws, rfl, .inl ⟨hq Sub.refl, hq' Sub.refl, q2 J2 H2 _ Ext.refl rh2 (itz_ok hq rr hq' rr')⟩⟩
    · cases hz
end
end PV
end

section
set_option maxRecDepth 100000
namespace PV
open L2 PySem PySem.Spec PyProof.Rows
section
variable {X : Cx} {e x a b tg : Expr} {p pa pb pc : P} {pos : Pos} {K : PySem.W.Frag} {J : Jn} {H : Hp} {h : Hh}

/-! ### targets -/
/-- storing an item -/
def gD (K : PySem.W.Frag) (t : Tg) (vs : List Nat) : TG := fun v σ H Q => ∃ ρ ρ' h J d, RE K J H ρ σ ∧ RH K J h H ∧ RD K J H d v ∧ t.put d ρ = some ρ' ∧ ∀ σ', RE K J H ρ' σ' → (∀ j, j ∉ vs → σ'[j]? = σ[j]?) → σ'.length = σ.length → Q σ' H
structure ST (X : Cx) (e : Expr) (t : Tg) (vs : List Nat) : Prop where
  run : PG X e (gD X.K t vs)
theorem st_v {i : Nat} {y : Str} (hN : X.N.Nodup) (hi : X.N[i]? = some y) (hx : L2.Loc X.env.scope y) (hf : X.fn y = true ∨ X.env.scope.names.lookup y = some .local) : ST X (.Name y pos) (.v i) [i] := by
  refine ⟨(pg_name hN hi hx hf).imp fun v σ H Q ⟨ρ, ρ', h, J, d, re, rh, rd, e, q⟩ => ?_⟩
  cases e
  exact q _ (re.set i rd) (fun j hj => by rw [List.getElem?_set_ne]; intro z; subst z; exact hj (by simp)) (by simp)
/-- several names -/
structure STs (X : Cx) (es : List Expr) (is : List Nat) : Prop where
  run : PGs X es (fun vs σ H Q => ∃ ρ ρ' h J ds, RE X.K J H ρ σ ∧ RH X.K J h H ∧ RDs X.K J H ds vs ∧ setAll is ds ρ = some ρ' ∧ ∀ σ', RE X.K J H ρ' σ' → (∀ j, j ∉ is → σ'[j]? = σ[j]?) → σ'.length = σ.length → Q σ' H)
  noStar : ∀ e ∈ es, ∃ y p, e = .Name y p
  len : es.length = is.length
theorem _root_.L2.PGs.imp {X : Cx} {e : List Expr} {t t' : TGs} (h : PGs X e t) (i : ∀ v σ H Q, t' v σ H Q → t v σ H Q) : PGs X e t' := ⟨fun p s σ H v u Q I r q => h.run p s σ H v u Q I r (i v σ H Q q)⟩
theorem sts_nil : STs X [] [] := by
  refine ⟨pgs_nil.imp fun v σ H Q ⟨ρ, ρ', h, J, ds, re, rh, rs, e, q⟩ => ?_, fun _ z => (by cases z), rfl⟩
  cases ds with
  | nil => cases rs; cases e; exact ⟨rfl, q _ re (fun _ _ => rfl) rfl⟩
  | cons _ _ => cases e
theorem sts_cons {i : Nat} {y : Str} {es : List Expr} {is : List Nat} (hN : X.N.Nodup) (hi : X.N[i]? = some y) (hx : L2.Loc X.env.scope y) (hf : X.fn y = true ∨ X.env.scope.names.lookup y = some .local) (hs : STs X es is) : STs X (.Name y pos :: es) (i :: is) := by
  refine ⟨(pgs_cons (pg_name (pos := pos) hN hi hx hf) hs.run rfl).imp fun v σ H Q ⟨ρ, ρ', h, J, ds, re, rh, rs, e, q⟩ => ?_, fun e he => ?_, by simp [hs.len]⟩
  · cases ds with
    | nil => cases e
    | cons d ds =>
      cases rs with
      | cons r t =>
        refine ⟨_, _, rfl, ?_⟩
        refine ⟨ρ.set i (some d), ρ', h, J, ds, re.set i r, rh, t, e, fun σ' re' hk hl => q σ' re' (fun j hj => ?_) (by rw [hl]; simp)⟩
        simp only [List.mem_cons, not_or] at hj
        rw [hk j hj.2, List.getElem?_set_ne (fun z => hj.1 z.symm)]
  · (rcases List.mem_cons.mp he with rfl | he)
    · exact ⟨_, _, rfl⟩
    · exact hs.noStar e he
theorem each_names : ∀ {es : List Expr} (env : PySem.Env), (∀ e ∈ es, ∃ y p, e = Expr.Name y p) → (assignEach es env).length = es.length ∧ (assignEach es env).findIdx? (·.1) = none
  | [], _, _ => ⟨rfl, rfl⟩
  | e :: es, env, h => by
    obtain ⟨y, p, rfl⟩ := h e List.mem_cons_self
    obtain ⟨h1, h2⟩ := each_names (es := es) env fun e he => h e (List.mem_cons_of_mem _ he)
    constructor
    · show (assignEach es env).length + 1 = es.length + 1
      rw [h1]
    · show ((false, assign (.Name y p) env) :: assignEach es env).findIdx? (·.1) = none
      rw [List.findIdx?_cons]
      simp [h2]
theorem setAll_len : ∀ {is : List Nat} {ds : List D} {ρ ρ' : Env}, setAll is ds ρ = some ρ' → ds.length = is.length
  | [], [], _, _, _ => rfl
  | [], _ :: _, _, _, h => by cases h
  | _ :: _, [], _, _, h => by cases h
  | i :: is, d :: ds, ρ, ρ', h => by simp [setAll_len (is := is) (ds := ds) h]
theorem st_tu {es : List Expr} {is : List Nat} {k : Nat} (hc : X.calm = true) (hs : STs X es is) : ST X (.Tuple es k pos) (.tu is) is := by
  obtain ⟨h1, h2⟩ := each_names X.env hs.noStar
  refine ⟨(pg_tup (n := is.length) hc hs.run (h1.trans hs.len) h2).imp fun v σ H Q ⟨ρ, ρ', h, J, d, re, rh, rd, e, q⟩ => ?_⟩
  cases d with
  | tup ds =>
    obtain ⟨a, vs, rfl, hq, z, rs⟩ := rd.tup_inv
    exact ⟨a, vs, rfl, hq, by rw [← rs.length]; exact setAll_len e, ρ, ρ', h, J, ds, re, rh, rs, e, q⟩
  | _ => cases e

/-! ### comprehensions -/
theorem wipe_get {σ : L2.St} : ∀ {vs : List Nat} {j : Nat}, j ∉ vs → (wipe σ vs)[j]? = σ[j]?
  | [], _, _ => rfl
  | v :: vs, j, h => by
    simp only [List.mem_cons, not_or] at h
    unfold wipe
    rw [List.getElem?_set_ne (fun z => h.1 z.symm), wipe_get h.2]
theorem wipe_in {σ : L2.St} : ∀ {vs : List Nat} {j : Nat}, j ∈ vs → j < σ.length → (wipe σ vs)[j]? = some none
  | v :: vs, j, h, hl => by
    unfold wipe
    by_cases hj : v = j
    · subst hj; rw [List.getElem?_set_self (by rw [wipe_length]; exact hl)]
    · rw [List.getElem?_set_ne hj]
      exact wipe_in ((List.mem_cons.mp h).resolve_left fun z => hj z.symm) hl
theorem wipe_same {σ σ' : L2.St} {vs : List Nat} (h : ∀ j, j ∉ vs → σ'[j]? = (wipe σ vs)[j]?) (hl : σ'.length = (wipe σ vs).length) : wipe σ' vs = wipe σ vs := by
  have hl2 : σ'.length = σ.length := by rw [hl, wipe_length]
  apply List.ext_getElem?
  intro j
  by_cases hj : j ∈ vs
  · by_cases hb : j < σ.length
    · rw [wipe_in hj (by rw [hl2]; exact hb), wipe_in hj hb]
    · rw [List.getElem?_eq_none (by rw [wipe_length, hl2]; omega), List.getElem?_eq_none (by rw [wipe_length]; omega)]
  · rw [wipe_get hj, h j hj]
/-- the names ahead of a comprehension, its own forgotten -/
def wipeD : List Nat → Env → Env
  | [], ρ => ρ
  | v :: vs, ρ => (wipeD vs ρ).set v none
theorem RE.wipe {ρ : Env} {σ : L2.St} (r : RE K J H ρ σ) : ∀ vs : List Nat, RE K J H (wipeD vs ρ) (wipe σ vs)
  | [] => r
  | v :: vs => by
    have ih := RE.wipe r vs
    unfold wipeD L2.wipe
    refine ⟨by simp [ih.len], fun j d q => ?_⟩
    by_cases hj : v = j
    · subst hj
      by_cases hl : v < (wipeD vs ρ).length
      · rw [List.getElem?_set_self hl] at q; cases q
      · rw [List.getElem?_eq_none (by simpa using hl)] at q; cases q
    · rw [List.getElem?_set_ne hj] at q
      obtain ⟨w, h1, h2⟩ := ih.get j d q
      exact ⟨w, by rw [List.getElem?_set_ne hj]; exact h1, h2⟩
theorem Sub.re {J J' : Jn} {H H' : Hp} {ρ : Env} {σ : L2.St} (s : Sub J H J' H') (r : RE K J H ρ σ) : RE K J' H' ρ σ := ⟨r.len, fun i d q => let ⟨v, a, b⟩ := r.get i d q; ⟨v, a, b.sub s⟩⟩
theorem setAll_of : ∀ {is : List Nat} {ds : List D} {ρ1 ρ2 : Env}, (∀ j, j ∉ is → ρ1[j]? = ρ2[j]?) → ρ1.length = ρ2.length → setAll is ds ρ1 = setAll is ds ρ2
  | [], [], ρ1, ρ2, h, _ => by
    have : ρ1 = ρ2 := List.ext_getElem? fun j => h j (by simp)
    rw [this]
  | [], _ :: _, _, _, _, _ => rfl
  | _ :: _, [], _, _, _, _ => rfl
  | i :: is, d :: ds, ρ1, ρ2, h, hl => by
    unfold setAll
    refine setAll_of (fun j hj => ?_) (by simp [hl])
    by_cases e : i = j
    · subst e
      rw [List.getElem?_set, List.getElem?_set, hl]
      simp
    · rw [List.getElem?_set_ne e, List.getElem?_set_ne e]
      exact h j (by simp only [List.mem_cons, not_or]; exact ⟨fun z => e z.symm, hj⟩)
theorem wipeD_get {ρ : Env} : ∀ {vs : List Nat} {j : Nat}, j ∉ vs → (wipeD vs ρ)[j]? = ρ[j]?
  | [], _, _ => rfl
  | v :: vs, j, h => by
    simp only [List.mem_cons, not_or] at h
    unfold wipeD
    rw [List.getElem?_set_ne (fun z => h.1 z.symm), wipeD_get h.2]
theorem wipeD_len {ρ : Env} : ∀ {vs : List Nat}, (wipeD vs ρ).length = ρ.length
  | [] => rfl
  | v :: vs => by unfold wipeD; rw [List.length_set, wipeD_len]
theorem put_wipe (t : Tg) (d : D) (ρ : Env) : t.put d (wipeD t.slots ρ) = t.put d ρ := by
  cases t with
  | v i => simp [Tg.put, Tg.slots, wipeD]
  | tu is =>
    unfold Tg.put Tg.slots
    cases d with
    | tup xs => exact setAll_of (fun j hj => wipeD_get hj) wipeD_len
    | _ => rfl
/-- the reading of a comprehension is what the rule wants -/
theorem lc_read {t : Tg} {f : Env → Hh → R Src} {pt pe : P} {σ : L2.St} {Q : VK} (hq : tF K (fun ρ h => (f ρ h).bind fun s h1 => if sizeOk s.items.length then lcLoop s.good (lcTurn t pt pe ρ) s.items [] h1 else .bad) σ H Q) :
    tLc (tI K f) (gD K t t.slots) (tG K rB pt.t) (tG K (rD K) pe.v) t.slots σ H Q := by
  obtain ⟨ρ, h, J, re, rh, q⟩ := hq
  refine ⟨ρ, h, J, re, rh, ?_⟩
  dsimp only at q
  cases ev : f ρ h with
  | bad => rw [ev] at q; exact q
  | err _ _ => rw [ev] at q; exact q
  | ok src h1 =>
    rw [ev, R.bind_ok] at q
    cases hsi : sizeOk src.items.length with
    | false => rw [hsi] at q; exact False.elim q
    | true =>
    rw [hsi] at q
    simp only [if_true] at q
    intro J1 H1 it e1 rh1 itok D nD
    have nDH : H D = none := by
      cases hp : H D with
      | none => rfl
      | some u =>
        exfalso
        by_cases n : D ∈ J.l
        · obtain ⟨m, hm, _⟩ := e1.pre
          obtain ⟨u', h2⟩ := rh1.inl (a := D) (by rw [hm]; exact List.mem_append_left _ n)
          rw [nD] at h2; cases h2
        · have := e1.keep D u n hp; rw [nD] at this; cases this
    -- the loop's word: so many items are gone, what is made so far lies at D
    let W : Nat → Nat → Hp → Prop := fun i m H2 => m = src.items.length - i ∧ i ≤ src.items.length ∧ ∃ J2 h2 acc vs, J2.z = D :: J.z ∧ Ext J H ⟨J2.l, J.z⟩ H2 ∧ Sub J1 H1 J2 H2 ∧ RH K J2 h2 H2 ∧ H2 D = some (.lst vs) ∧ vs.length ≤ i ∧ vs.length ≤ sizeLine ∧ RDs K J2 H2 acc vs ∧
      (match lcLoop src.good (lcTurn t pt pe ρ) (src.items.drop i) acc h2 with
        | .ok (.lst ds) h' => ∀ J' H' a vs, Ext J H ⟨J'.l, J.z⟩ H' → J'.z = a :: J.z → RH K J' h' H' → H' a = some (.lst vs) → vs.length ≤ sizeLine → RDs K J' H' ds vs → H a = none → Q (.ref a) H'
        | _ => False)
    refine ⟨W, ⟨src.items.length, by simp, Nat.zero_le _, J1.hide D, h1, [], [], by rw [← e1.z], ?_, (Sub.hide nD).trans (Ext.laid nD).sub, rh1.hide nD, upd_same, Nat.zero_le _, Nat.zero_le _, .nil, q⟩, fun i m H2 hW => ?_⟩
    · exact ⟨rfl, e1.pre, fun a o n q => by rw [upd_ne (ne_of_none (e1.keep a o n q) nD)]; exact e1.keep a o n q⟩
    · obtain ⟨rfl, hi', J2, h2, acc, vs, ez, e2, s2, rh2, hD, hv, hsz, rs, q⟩ := hW
      cases hd : src.items[i]? with
      | none =>
        -- the end
        have hlen : i = src.items.length := by have := List.getElem?_eq_none_iff.mp hd; omega
        subst hlen
        rw [List.drop_eq_nil_of_le (Nat.le_refl _)] at q
        unfold lcLoop at q
        split at q
        · rename_i ds h' heq
          split at heq
          · rename_i hgood
            cases heq
            exact .inl ⟨itok.stop s2 rh2 hgood, q J2 H2 D vs e2 ez rh2 hD hsz rs nDH⟩
          · cases heq
        · exact False.elim q
      | some d =>
        have hlt : i < src.items.length := (List.getElem?_eq_some_iff.mp hd).1
        rw [List.drop_eq_getElem_cons hlt] at q
        have hde : src.items[i] = d := by rw [List.getElem?_eq_getElem hlt] at hd; exact Option.some.inj hd
        rw [hde] at q
        unfold lcLoop at q
        cases hgood : src.good h2 with
        | false => rw [hgood] at q; exact False.elim q
        | true =>
          rw [hgood] at q
          simp only [if_true] at q
          obtain ⟨g1, g2⟩ := itok.go s2 rh2 hgood hd
          refine .inr ⟨g1, fun H' => ∃ m', m' < src.items.length - i ∧ W (i + 1) m' H', fun H' z => z, fun xv H3 y3 => ?_⟩
          obtain ⟨e3, rh3, rd3⟩ := g2 xv H3 y3
          have hD3 : H3 D = some (.lst vs) := e3.keep D _ (rh2.apart D (by rw [ez]; exact List.mem_cons_self)) hD
          cases ht2 : t.put d ρ with
          | none => simp only [lcTurn, ht2] at q
          | some ρ' =>
            simp only [lcTurn, ht2] at q
            have re3 : RE K J2 H3 ρ σ := (re.ext e1 |> Sub.re s2).ext e3
            have sub3 : Sub J1 H1 J2 H3 := s2.trans e3.sub
            have ext3 : Ext J H ⟨J2.l, J.z⟩ H3 := ⟨rfl, e2.pre, fun a o n q => e3.keep a o (e2.notin n q) (e2.keep a o n q)⟩
            refine ⟨_, ρ', h2, J2, d, re3.wipe _, rh3, rd3, by rw [put_wipe]; exact ht2, fun σ2 re4 hk hl => ⟨wipe_same hk hl, ?_⟩⟩
            -- the test, the element
            have nx : ∀ (J5 : Jn) (h5 : Hh) (H5 : Hp) (acc5 : List PV.D) (vs5 : List V), Ext J2 H3 J5 H5 → RH K J5 h5 H5 → (∀ u, Ext J H ⟨J5.l, J.z⟩ (upd H5 D u)) ∧ Sub J1 H1 J5 H5 := fun J5 h5 H5 acc5 vs5 e5 rh5 => by
              refine ⟨fun u => ⟨rfl, ?_, fun a o n q => ?_⟩, sub3.trans e5.sub⟩
              · obtain ⟨m1, hm1, f1⟩ := ext3.pre
                obtain ⟨m2, hm2, f2⟩ := e5.pre
                have hm1 : J2.l = J.l ++ m1 := hm1
                refine ⟨m1 ++ m2, by show J5.l = _; rw [hm2, hm1, List.append_assoc], fun a ha => ?_⟩
                rcases List.mem_append.mp ha with z | z
                · exact f1 a z
                · cases hp : H a with
                  | none => rfl
                  | some w =>
                    exfalso
                    by_cases n : a ∈ J.l
                    · obtain ⟨w', h2'⟩ := rh3.inl (a := a) (by rw [hm1]; exact List.mem_append_left _ n)
                      rw [f2 a z] at h2'; cases h2'
                    · have := ext3.keep a w n hp; rw [f2 a z] at this; cases this
              · have hne : a ≠ D := by rintro rfl; rw [nDH] at q; cases q
                rw [upd_ne hne]
                exact e5.keep a o (ext3.notin n q) (ext3.keep a o n q)
            refine ⟨ρ', h2, J2, re4, rh3, ?_⟩
            cases et : pt.t ρ' h2 with
            | bad => rw [et] at q; exact False.elim q
            | err _ _ => rw [et] at q; exact False.elim q
            | ok okb h3 =>
              rw [et, R.bind_ok] at q
              intro J4 H4 bb e4 rh4 hbb
              have hbb : okb = bb := hbb
              subst hbb
              have hD4 : H4 D = some (.lst vs) := e4.keep D _ (rh3.apart D (by rw [ez]; exact List.mem_cons_self)) hD3
              cases okb with
              | false =>
                simp only [Bool.false_eq_true, if_false] at q ⊢
                obtain ⟨n1, n2⟩ := nx J4 h3 H4 acc vs e4 rh4
                refine ⟨_, by omega, rfl, hlt, J4, h3, acc, vs, by rw [e4.z, ez], ?_, n2, rh4, hD4, by omega, hsz, (rs.ext e3).ext e4, q⟩
                have := n1 (.lst vs)
                have hu : upd H4 D (.lst vs) = H4 := by funext a; unfold upd; split <;> simp_all
                rwa [hu] at this
              | true =>
                simp only [if_true] at q ⊢
                refine ⟨ρ', h3, J4, re4.ext e4, rh4, ?_⟩
                cases ee : pe.v ρ' h3 with
                | bad => rw [ee] at q; exact False.elim q
                | err _ _ => rw [ee] at q; exact False.elim q
                | ok y h4 =>
                  rw [ee] at q
                  simp only [R.bind_ok] at q
                  intro J5 H5 yv e5 rh5 ry
                  have hz4 : D ∈ J4.z := by rw [e4.z, ez]; exact List.mem_cons_self
                  have hz5 : D ∈ J5.z := by rw [e5.z]; exact hz4
                  have hD5 : H5 D = some (.lst vs) := e5.keep D _ (rh4.apart D hz4) hD4
                  have e45 : Ext J2 H3 J5 H5 := e4.trans rh3 rh4 e5
                  obtain ⟨n1, n2⟩ := nx J5 h4 H5 acc vs e45 rh5
                  have hlen : vs.length < sizeLine := by have := size_of hsi; omega
                  refine ⟨vs, hD5, hlen, _, by omega, rfl, hlt, J5, h4, acc ++ [y], vs ++ [yv], by rw [e5.z, e4.z, ez], n1 _, n2.trans (Sub.writeZ hz5), rh5.writeZ hz5, upd_same, by simp; omega, by simp; omega, ?_, q⟩
                  exact (((rs.ext e3).ext e45).append (.cons ry .nil)).sub (Sub.writeZ hz5)
theorem se_lcF {elt iter : Expr} {ifs : List Expr} {scope : Scope} {own : List (Str × Nat)} {t : Tg} {f : Env → Hh → R Src} {pt pe : P} {tt : TT} (hc : X.calm = true) (hN : X.N.Nodup) (hi : PI X tg iter (tI X.K f)) (ok : BlkOk X.N X.env.scope scope own) (hown : own.map (·.2) = t.slots)
    (hg : ∀ (s : Shared) (H : Hp) (C : Addr) (cl : List (Str × Addr)) (fp : List Addr), ST (X.blk s H scope (compEnvC scope cl C X.env) fp) tg t t.slots)
    (ht : ∀ (s : Shared) (H : Hp) (C : Addr) (cl : List (Str × Addr)) (fp : List Addr), PTs (X.blk s H scope (compEnvC scope cl C X.env) fp) ifs (tG X.K rB pt.t))
    (he : ∀ (s : Shared) (H : Hp) (C : Addr) (cl : List (Str × Addr)) (fp : List Addr), PE (X.blk s H scope (compEnvC scope cl C X.env) fp) elt (tG X.K (rD X.K) pe.v)) (hs : ∀ x, foldedSetIterable iter X.env x = pure x) :
    PE X (.ListComp elt [⟨tg, iter, ifs, 0⟩] scope pos) (tF X.K fun ρ h => (f ρ h).bind fun s h1 => if sizeOk s.items.length then lcLoop s.good (lcTurn t pt pe ρ) s.items [] h1 else .bad) := by
  refine (pe_lc (g := gD X.K t t.slots) (tt := tG X.K rB pt.t) (te := tG X.K (rD X.K) pe.v) hc hN hi ok (fun s H C cl fp => (hg s H C cl fp).run) ht he hs).imp fun σ H Q q => ?_
  rw [hown]
  exact lc_read q
end
end PV
end

section
set_option maxRecDepth 100000
/-! PvQ: enumerate of a tuple, collected into a tuple. -/
namespace PVQ
open PySem
open PySem.Sem (wp)
theorem new_enumT (t : Addr) (items : Array Value) (k : Nat) (dc : Option Addr) (sl : Array (Option Value)) :
    Meets (Builtin.«enumerate.__new__» ⟨[.type "enumerate", .ref t], []⟩) (fun _ R s => s.heap.get? t = some { cls := .type "tuple", dict := dc, data := .seq items k, slots := sl } ∧
      R (.ok (.ret (.ref (s.heap.push { cls := .type "tuple_iterator", data := .fields #[.ref t, .int 0 0] }).objs.size)))
        { s with heap := (s.heap.push { cls := .type "tuple_iterator", data := .fields #[.ref t, .int 0 0] }).push { cls := .type "enumerate", data := .fields #[.none, .bool false, .ref s.heap.objs.size, rawInt 0, .none, .none] } }) :=
  .of_wp fun prog w A R s hyp => by
    obtain ⟨hp, gn, dr, tk, os⟩ := s
    obtain ⟨hget, hR⟩ := hyp
    have sub := sub_enumerate
    have isT : Heap.IsTuple (Shared.heap ⟨hp, gn, dr, tk, os⟩) t items := ⟨_, hget, rfl, k, rfl⟩
    wp_walk using PySem.AutoSeq1.wpAny_loadPart' hget
    (refine wpAny_stack_any fun st => wpAny_pure ?_)
    split
    · rename_i cl _ _ _ _ _
      cases (cl == Value.type "enumerate")
      · wp_walk using PySem.AutoSeq1.wpAny_loadPart' hget, wpAny_pyIter_tuple isT
        exact ⟨_, rfl, hR⟩
      · wp_walk using PySem.AutoSeq1.wpAny_loadPart' hget, wpAny_pyIter_tuple isT
        exact ⟨_, rfl, hR⟩
    · wp_walk using PySem.AutoSeq1.wpAny_loadPart' hget, wpAny_pyIter_tuple isT
      exact ⟨_, rfl, hR⟩
section
variable {w : World} {prog : Program} {A : Around} {E : Value → Shared → Prop} {s : Shared}
theorem call_enumT {t : Addr} {items : Array Value} {Q : Value → Shared → Prop} (ht : s.heap.IsTuple t items)
    (hq : ∀ h', IsEnum h' (s.heap.objs.size + 1) s.heap.objs.size 0 .none → h'.IsTupleIter s.heap.objs.size t 0 → h'.objs.size = s.heap.objs.size + 2 → (∀ b o, s.heap.get? b = some o → h'.get? b = some o) →
      Q (.ref (s.heap.objs.size + 1)) { s with heap := h' }) : wpAny (model prog w) A (call (.type "enumerate") [.ref t]) Q E s := by
  obtain ⟨⟨cl, dc, dt, sl⟩, hget, hc, k, hd⟩ := ht
  cases (show cl = .type "tuple" from hc)
  cases (show dt = .seq items k from hd)
  refine callType_new F.called_enumerate (by decide) (F.typeCall_enumerate_1 _) (F.newCall_enumerate_1 _) (fun ob => F.args_object_init_2 ob _) F.entry_enumerate_new (new_enumT t items k dc sl) ⟨hget, ?_⟩
  have size1 : (s.heap.push { cls := .type "tuple_iterator", data := .fields #[.ref t, .int 0 0] }).objs.size = s.heap.objs.size + 1 := Heap.size_push ..
  show _ ∧ _
  rw [size1]
  have isE : IsEnum ((s.heap.push { cls := .type "tuple_iterator", data := .fields #[.ref t, .int 0 0] }).push { cls := .type "enumerate", data := .fields #[.none, .bool false, .ref s.heap.objs.size, rawInt 0, .none, .none] }) (s.heap.objs.size + 1) s.heap.objs.size 0 .none := by
    have q := Heap.get?_push_size (s.heap.push { cls := .type "tuple_iterator", data := .fields #[.ref t, .int 0 0] }) (o := { cls := .type "enumerate", data := .fields #[.none, .bool false, .ref s.heap.objs.size, rawInt 0, .none, .none] }) rfl
    rwa [size1] at q
  exact ⟨⟨_, isE, rfl⟩, hq _ isE ⟨_, Heap.get?_push_of_some _ (Heap.get?_push_size _ rfl), rfl, rfl⟩ (by rw [Heap.size_push, size1]) fun b o x => Heap.get?_push_of_some _ (Heap.get?_push_of_some _ x)⟩
/-- next while a tuple that was given out is still there -/
theorem next_heldT {e it t T : Addr} {i : Nat} {items : Array Value} {x old : Value} {fl : Bool} {oT : Obj} {Q : Option Value → Shared → Prop}
    (he : IsEnumHeld s.heap e it i old T fl) (hT : s.heap.get? T = some oT) (nTe : T ≠ e) (nTi : T ≠ it) (hi : s.heap.IsTupleIter it t i) (ht : s.heap.IsTuple t items) (hx : items[i]? = some x) (nei : e ≠ it)
    (hq : ∀ h' tk, IsEnumHeld h' e it ((i : Int) + 1) old T true → h'.IsTupleIter it t (i + 1) → h'.get? s.heap.objs.size = some { cls := .type "tuple", data := .seq #[.int i tk, x] } → h'.objs.size = s.heap.objs.size + 1 →
      (∀ b o, b ≠ e → b ≠ it → s.heap.get? b = some o → h'.get? b = some o) →
      Q (some (.ref s.heap.objs.size)) { s with heap := h', toks := tk + 1 }) : wpAny (model prog w) A (pyNext (.ref e)) Q E s := by
  have isTy : s.TypeIs (.ref e) "enumerate" := ⟨_, he, rfl⟩
  unfold pyNext
  refine wpAny_bind (wpAny_attempt (wpAny_callSpecial?_slot (name := Str.ofString "__next__") isTy F.slot_enumerate_next (wpAny_call_entry F.slot_enumerate_next isTy F.entry_enumerate_next ?_ (F.args_enumerate_next_1 _))))
  obtain ⟨hp, gn, dr, tk, os⟩ := s
  (show wpAny _ _ (field (.ref e) 2 >>= _) _ _ _)
  refine wpAny_bind (wpAny_field he rfl (x := .ref it) rfl (wpAny_bind (wpAny_nextOf_tuple_item hi ht hx fun g1 hi1 sb1 => ?_)))
  have sb1 : Heap.SameBut it hp g1 := sb1
  have he1 : IsEnumHeld g1 e it i old T fl := (sb1.2 e nei).trans he
  show wpAny _ _ (field (.ref e) 3 >>= _) _ _ ⟨g1, gn, dr, tk, os⟩
  refine wpAny_bind (wpAny_field he1 rfl (x := rawInt i) rfl ?_)
  show wpAny _ _ (field (.ref e) 4 >>= _) _ _ ⟨g1, gn, dr, tk, os⟩
  refine wpAny_bind (wpAny_field he1 rfl (x := .none) rfl ?_)
  show wpAny _ _ (mkInt i >>= _) _ _ ⟨g1, gn, dr, tk, os⟩
  (refine wpAny_bind (wpAny_mkInt ?_))
  show wpAny _ _ (setField (.ref e) 3 (rawInt ((i : Int) + 1)) >>= _) _ _ ⟨g1, gn, dr, tk + 1, os⟩
  refine wpAny_bind (wpAny_setField_rec he1 (by simp) fun g2 he2 sb2 => ?_)
  have sb2 : Heap.SameBut e g1 g2 := sb2
  have he2 : IsEnumHeld g2 e it ((i : Int) + 1) old T fl := he2
  show wpAny _ _ (setField (.ref e) 4 .none >>= _) _ _ ⟨g2, gn, dr, tk + 1, os⟩
  refine wpAny_bind (wpAny_setField_rec he2 (by simp) fun g3 he3 sb3 => ?_)
  have sb3 : Heap.SameBut e g2 g3 := sb3
  have he3 : IsEnumHeld g3 e it ((i : Int) + 1) old T fl := he3
  show wpAny _ _ (newTuple [.int i tk, x] >>= _) _ _ ⟨g3, gn, dr, tk + 1, os⟩
  (refine wpAny_bind (wpAny_newTuple ?_))
  have sz3 : g3.objs.size = hp.objs.size := by rw [sb3.1, sb2.1, sb1.1]
  have he4 : IsEnumHeld (g3.push { cls := .type "tuple", data := .seq #[.int i tk, x] }) e it ((i : Int) + 1) old T fl := Heap.get?_push_of_some _ he3
  have keep4 : ∀ b o, b ≠ e → b ≠ it → hp.get? b = some o → (g3.push { cls := .type "tuple", data := .seq #[.int i tk, x] }).get? b = some o := fun b o hbe hbi hb =>
    Heap.get?_push_of_some _ (sb3.extBut b o hbe (sb2.extBut b o hbe (sb1.extBut b o hbi hb)))
  have hi4 : (g3.push { cls := .type "tuple", data := .seq #[.int i tk, x] }).IsTupleIter it t (i + 1) := by
    obtain ⟨o, ho, r⟩ := (hi1.extBut sb2.extBut (Ne.symm nei)).extBut sb3.extBut (Ne.symm nei)
    exact ⟨o, Heap.get?_push_of_some _ ho, r⟩
  have new4 : (g3.push { cls := .type "tuple", data := .seq #[.int i tk, x] }).get? hp.objs.size = some { cls := .type "tuple", data := .seq #[.int i tk, x] } := by rw [← sz3]; exact Heap.get?_push_size _ rfl
  have nne : hp.objs.size ≠ e := Nat.ne_of_gt (Heap.lt_size he)
  show wpAny _ _ (Builtin.SmallTypes.ownedTupleIsFree (.ref e) >>= _) _ _ ⟨_, gn, dr, tk + 1, os⟩
  rw [sz3]
  refine wpAny_bind (wpAny_tupleHeld_enum (s := ⟨_, gn, dr, tk + 1, os⟩) he4 (keep4 T oT nTe nTi hT) fun g5 he5 sb5 => ?_)
  have sb5 : Heap.SameBut e _ g5 := sb5
  (simp only [Bool.false_eq_true, if_false])
  (refine wpAny_pure ⟨_, rfl, ?_⟩)
  refine wpAny_pure (hq g5 tk he5 (hi4.extBut sb5.extBut (Ne.symm nei)) (sb5.extBut _ _ nne new4) ?_ fun b o hbe hbi hb => sb5.extBut b o hbe (keep4 b o hbe hbi hb))
  show g5.objs.size = hp.objs.size + 1
  rw [sb5.1, Heap.size_push, sz3]
theorem end_heldT {e it t T : Addr} {i : Nat} {items : Array Value} {old : Value} {fl : Bool} {Q : Option Value → Shared → Prop} (hh : A.handled = none) (he : IsEnumHeld s.heap e it i old T fl) (hi : s.heap.IsTupleIter it t i) (ht : s.heap.IsTuple t items) (hx : items[i]? = none)
    (hq : ∀ h', Heap.ExtBut it s.heap h' → Q none { s with heap := h' }) : wpAny (model prog w) A (pyNext (.ref e)) Q E s := by
  have isTy : s.TypeIs (.ref e) "enumerate" := ⟨_, he, rfl⟩
  unfold pyNext
  refine wpAny_bind (wpAny_attempt (wpAny_callSpecial?_slot (name := Str.ofString "__next__") isTy F.slot_enumerate_next (wpAny_call_entry F.slot_enumerate_next isTy F.entry_enumerate_next ?_ (F.args_enumerate_next_1 _))))
  (show wpAny _ _ (field (.ref e) 2 >>= _) _ _ _)
  refine wpAny_bind (wpAny_field he rfl (x := .ref it) rfl (wpAny_bind (wpAny_nextOf_tuple_end hh hi ht hx fun h' y ex ey => ?_)))
  obtain ⟨o, ho, hc⟩ := ey
  exact wpAny_bind (wpAny_isInstance (T := "StopIteration") (b := true) ⟨o, ho, hc⟩ isSubtype_stop (wpAny_pure (hq _ ex)))

/-! ### the loop that collects the pairs -/
structure Pairs (items : Array Value) (e it S : Addr) (acc : Array Value) (h : Heap) : Prop where
  at_ : ∀ (j : Nat) (v : Value), acc[j]? = some v → ∃ (T : Addr) (tk : Tok) (x : Value), v = .ref T ∧ items[j]? = some x ∧ h.get? T = some { cls := .type "tuple", data := .seq #[.int (j : Int) tk, x] } ∧ T ≠ e ∧ T ≠ it ∧ T ≠ S ∧ e < T
structure At (items : Array Value) (e it t S : Addr) (i : Nat) (acc : Array Value) (c : Nat) (h : Heap) : Prop where
  en : (i = 0 ∧ ∃ old, IsEnum h e it 0 old) ∨ ∃ (old : Value) (T : Addr) (fl : Bool) (oT : Obj), IsEnumHeld h e it (i : Int) old T fl ∧ h.get? T = some oT ∧ T ≠ e ∧ T ≠ it ∧ T ≠ S
  ti : h.IsTupleIter it t i
  tp : h.IsTuple t items
  ls : h.get? S = some { cls := .type "list", dict := none, data := .seq acc c, slots := #[] }
  sz : acc.size = i
  ps : Pairs items e it S acc h
theorem nextT (hh : A.handled = none) {items : Array Value} {e it t S : Addr} {i c : Nat} {acc : Array Value} (n1 : e ≠ it) (n2 : t ≠ it) (n3 : t ≠ e) (a : At items e it t S i acc c s.heap) (hlt : i < items.size) {Q : Option Value → Shared → Prop}
    (hq : ∀ (g : Heap) (tk : Tok), (∃ (old : Value) (T : Addr) (fl : Bool) (oT : Obj), IsEnumHeld g e it ((i + 1 : Nat) : Int) old T fl ∧ g.get? T = some oT ∧ T ≠ e ∧ T ≠ it ∧ T ≠ S) → g.IsTupleIter it t (i + 1) → g.IsTuple t items →
      g.get? s.heap.objs.size = some { cls := .type "tuple", data := .seq #[.int (i : Int) tk, items[i]] } → (∀ b o, b ≠ e → b ≠ it → s.heap.get? b = some o → g.get? b = some o) → Q (some (.ref s.heap.objs.size)) { s with heap := g, toks := tk + 1 }) :
    (wpAny (model prog w) A (pyNext (.ref e)) Q E s) := by
  obtain ⟨oi, goi, _⟩ := id a.ti
  have z1 : s.heap.objs.size ≠ it := Nat.ne_of_gt (Heap.lt_size goi)
  have z3 : s.heap.objs.size ≠ S := Nat.ne_of_gt (Heap.lt_size a.ls)
  rcases a.en with ⟨i0, old, he⟩ | ⟨old, T, fl, oT, he, hT, m1, m2, m3⟩
  · have z4 : s.heap.objs.size ≠ e := Nat.ne_of_gt (Heap.lt_size he)
    subst i0
    refine wpAny_pyNext_enum_itemD (Draws.tuple (A := A.in1) hh it t n2 items) he ⟨a.ti, a.tp⟩ hlt n1 (fun hm => ?_) fun x g tk hP ho hs2 new _ keep => ?_
    · rcases List.mem_cons.mp hm with z | z
      · exact n1 z
      · exact n3 (List.mem_singleton.mp z).symm
    · have hx : items[0] = x := by rw [Array.getElem?_eq_getElem hlt] at hP; exact Option.some.inj hP
      subst hx
      exact hq g tk ⟨_, _, false, _, ho, new, z4, z1, z3⟩ hs2.1 hs2.2 new keep
  · refine next_heldT he hT m1 m2 a.ti a.tp (Array.getElem?_eq_getElem hlt) n1 fun g tk ho hi2 new _ keep => ?_
    exact hq g tk ⟨_, T, true, oT, ho, keep T _ m1 m2 hT, m1, m2, m3⟩ hi2 (a.tp.at fun o q => keep t o n3 n2 q) new keep
theorem loopT (hh : A.handled = none) {items : Array Value} {e it t S : Addr} (n1 : e ≠ it) (n2 : t ≠ it) (n3 : t ≠ e) (n4 : S ≠ e) (n5 : S ≠ it) (n6 : S ≠ t) (hz : items.size ≤ sizeLine) (res : Value) {R : Result → Shared → Prop} :
    ∀ (k i : Nat) (s : Shared) (acc : Array Value) (c : Nat), items.size - i = k → i ≤ items.size → At items e it t S i acc c s.heap →
    (∀ (h' : Heap) (tk' : Tok) (acc' : Array Value) (c' : Nat), acc'.size = items.size → Pairs items e it S acc' h' → h'.get? S = some { cls := .type "list", dict := none, data := .seq acc' c', slots := #[] } → (∀ b o, b ≠ e → b ≠ it → b ≠ S → s.heap.get? b = some o → h'.get? b = some o) →
      R (.ok (.ret res)) { s with heap := h', toks := tk' }) → codeAny (model prog w) A (.builtin "list.extend.loop" ⟨[.ref S, .ref e, res], []⟩) R s := by
  intro k
  induction k with
  | zero =>
    intro i s acc c hk hi a hR
    have e0 : i = items.size := by omega
    subst e0
    (refine codeAny_builtin F.entry_extend_loop ?_)
    (rw [Around.under_plainId F.plain_extend_loop _])
    show wpAny _ A.in1 (pyNext (.ref e) >>= _) _ _ s
    have stop : ∀ h', Heap.ExtBut it s.heap h' → R (.ok (.ret res)) { s with heap := h' } := fun h' x =>
      hR h' s.toks acc c a.sz ⟨fun j v hv => let ⟨T, tk, y, q1, q2, q3, q4, q5, q6⟩ := a.ps.at_ j v hv; ⟨T, tk, y, q1, q2, x T _ q5 q3, q4, q5, q6⟩⟩ (x S _ n5 a.ls) fun b o _ hb _ q => x b o hb q
    rcases a.en with ⟨i0, old, he⟩ | ⟨old, T, fl, oT, he, hT, m1, m2, m3⟩
    · exact wpAny_bind (wpAny_pyNext_enum_endD (Draws.tuple (A := A.in1.in1) hh it t n2 items) he ⟨a.ti, a.tp⟩ fun h' x => wpAny_pure (stop h' x))
    · exact wpAny_bind (end_heldT hh he a.ti a.tp (by simp) fun h' x => wpAny_pure (stop h' x))
  | succ k ih =>
    intro i s acc c hk hi a hR
    (have hlt : i < items.size := by omega)
    (refine codeAny_builtin F.entry_extend_loop ?_)
    (rw [Around.under_plainId F.plain_extend_loop _])
    show wpAny _ A.in1 (pyNext (.ref e) >>= _) _ _ s
    obtain ⟨oi, goi, _⟩ := a.ti
    obtain ⟨ot, got, _⟩ := a.tp
    have z1 : s.heap.objs.size ≠ it := Nat.ne_of_gt (Heap.lt_size goi)
    have z2 : s.heap.objs.size ≠ t := Nat.ne_of_gt (Heap.lt_size got)
    have z3 : s.heap.objs.size ≠ S := Nat.ne_of_gt (Heap.lt_size a.ls)
    have z5 : e < s.heap.objs.size := by
      rcases a.en with ⟨_, old, he⟩ | ⟨old, T, fl, oT, he, _⟩
      · exact Heap.lt_size he
      · exact Heap.lt_size he
    have z4 : s.heap.objs.size ≠ e := Nat.ne_of_gt z5
    refine wpAny_bind (nextT (A := A.in1) (show A.in1.handled = none from hh) n1 n2 n3 a hlt fun g tk en hi2 ht2 new keep => ?_)
    have ls2 := keep S _ n4 n5 a.ls
    show wpAny _ A.in1 (updateSeq S (·.push (.ref s.heap.objs.size)) >>= _) _ _ _
    refine wpAny_bind ?_
    refine wpAny_updateSeq ls2 rfl (wpAny_pure ⟨plainId_quiet F.plain_extend_loop _, ih (i + 1) _ (acc.push (.ref s.heap.objs.size)) _ (by omega) hlt ⟨.inr ?_, ?_, ?_, Heap.get?_update_self _ ls2 rfl, by rw [Array.size_push, a.sz], ⟨fun j v hv => ?_⟩⟩ fun h' tk' acc' c' q1 q2 q3 q4 => ?_⟩)
      (by rw [a.sz]; omega) (by show (acc.push (.ref s.heap.objs.size)).size ≤ sizeLine + 1; rw [Array.size_push, a.sz]; omega)
    · obtain ⟨old, T, fl, oT, r1, r2, r3, r4, r5⟩ := en
      exact ⟨old, T, fl, oT, (Heap.get?_update_other _ _ n4).trans r1, (Heap.get?_update_other _ _ (Ne.symm r5)).trans r2, r3, r4, r5⟩
    · exact hi2.at fun o q => (Heap.get?_update_other _ _ n5).trans q
    · exact ht2.at fun o q => (Heap.get?_update_other _ _ n6).trans q
    · rw [Array.getElem?_push] at hv
      split at hv
      · rename_i ej
        rw [a.sz] at ej
        cases hv
        subst ej
        exact ⟨_, tk, items[j], rfl, Array.getElem?_eq_getElem hlt, (Heap.get?_update_other _ _ (Ne.symm z3)).trans new, z4, z1, z3, z5⟩
      · obtain ⟨T, tk2, y, r1, r2, r3, r4, r5, r6, r7⟩ := a.ps.at_ j v hv
        exact ⟨T, tk2, y, r1, r2, (Heap.get?_update_other _ _ (Ne.symm r6)).trans (keep T _ r4 r5 r3), r4, r5, r6, r7⟩
    · exact hR h' tk' acc' c' q1 q2 q3 fun b o b1 b2 b3 q => q4 b o b1 b2 b3 ((Heap.get?_update_other _ _ (Ne.symm b3)).trans (keep b o b1 b2 q))

theorem nolen_en : typeLookup (.type "enumerate") "__len__" = pure none := by rw [typeLookup_type, builtinLookup_eq_fast]; kernel_rfl
theorem nohint_en : typeLookup (.type "enumerate") "__length_hint__" = pure none := by rw [typeLookup_type, builtinLookup_eq_fast]; kernel_rfl
theorem collectT (hh : A.handled = none) {items : Array Value} {e it t : Addr} {old : Value} (n1 : e ≠ it) (n2 : t ≠ it) (n3 : t ≠ e) (hz : items.size ≤ sizeLine) (he : IsEnum s.heap e it 0 old) (hi : s.heap.IsTupleIter it t 0) (ht : s.heap.IsTuple t items) {Q : List Value → Shared → Prop}
    (hQ : ∀ (h' : Heap) (tk' : Tok) (acc : Array Value), acc.size = items.size → (∀ (j : Nat) (v : Value), acc[j]? = some v → ∃ (T : Addr) (tk : Tok) (x : Value), v = .ref T ∧ items[j]? = some x ∧ h'.get? T = some { cls := .type "tuple", data := .seq #[.int (j : Int) tk, x] } ∧ e < T) →
      (∀ b o, b ≠ e → b ≠ it → s.heap.get? b = some o → h'.get? b = some o) → s.heap.objs.size < h'.objs.size → Q acc.toList { s with heap := h', toks := tk' }) : wpAny (model prog w) A (collect (.ref e)) Q E s := by
  obtain ⟨oi, goi, _⟩ := id hi
  obtain ⟨ot, got, _⟩ := id ht
  have le := Heap.lt_size he
  have li := Heap.lt_size goi
  have lt := Heap.lt_size got
  unfold collect
  refine wpAny_bind (wpAny_runValue (codeAny_builtin F.entry_proto_collect ?_)); rw [Around.under_plainId F.plain_proto_collect _]
  show wpAny _ A.in1 (newList [] >>= fun l => again (.builtin "list.__iadd__" ⟨[l, .ref e], []⟩)) _ _ s
  refine wpAny_bind (wpAny_newObj_type (wpAny_pure ⟨plainId_quiet F.plain_list_iadd _, codeAny_builtin F.entry_list_iadd ?_⟩)); rw [Around.under_plainId F.plain_list_iadd _]
  let g0 := s.heap.push { cls := .type "list", data := .seq ([] : List Value).toArray }
  have k0 : ∀ b o, s.heap.get? b = some o → g0.get? b = some o := fun b o q => Heap.get?_push_of_some _ q
  have he0 : IsEnum g0 e it 0 old := k0 _ _ he
  have isTy : ({ s with heap := g0 } : Shared).TypeIs (.ref e) "enumerate" := ⟨_, he0, rfl⟩
  show wpAny _ A.in1 (Builtin.List.listExtendWith (.ref s.heap.objs.size) (.ref e) (.ref s.heap.objs.size)) _ _ _
  (unfold Builtin.List.listExtendWith)
  refine wpAny_bind (wpAny_typeOf isTy ?_)
  have q1 : Builtin.List.listSameRef (.ref s.heap.objs.size) (.ref e) = false := by simp [Builtin.List.listSameRef, Nat.ne_of_gt le]
  have q2 : (Value.type "enumerate" == Value.type "list") = false := by decide
  have q3 : (Value.type "enumerate" == Value.type "tuple") = false := by decide
  simp only [q1, q2, q3, Bool.or_false, Bool.false_eq_true, if_false]
  refine wpAny_bind (wpAny_pyIter_enum he0 (wpAny_bind (wpAny_holding ?_)))
  (unfold Builtin.List.listLengthHint)
  refine wpAny_bind (wpAny_specialOf isTy nolen_en ?_)
  show wpAny _ A.in1 (specialOf (Value.ref e) (Str.ofString "__length_hint__") >>= _) _ _ _
  refine wpAny_bind (wpAny_specialOf isTy nohint_en (wpAny_pure ?_))
  show wpAny _ A.in1 (rule "list.extend.makes-room" >>= fun _ => Builtin.List.listTouch (.ref s.heap.objs.size) >>= fun _ => again (.builtin "list.extend.loop" ⟨[.ref s.heap.objs.size, .ref e, .ref s.heap.objs.size], []⟩)) _ _ _
  have hS : g0.get? s.heap.objs.size = some { cls := .type "list", data := .seq ([] : List Value).toArray } := Heap.get?_push_size _ rfl
  (refine wpAny_bind (wpAny_rule (wpAny_bind ?_)))
  (show wpAny _ A.in1 (updateSeq s.heap.objs.size (·.push .none) >>= fun _ => updateSeq s.heap.objs.size (·.pop)) _ _ _)
  have hS2 := Heap.get?_update_self (Obj.mapSeq (·.push Value.none)) hS rfl
  have hS3 := Heap.get?_update_self (Obj.mapSeq (·.pop)) hS2 rfl
  refine wpAny_bind (wpAny_updateSeq hS rfl (wpAny_updateSeq hS2 rfl ?_))
  have oth : ∀ b o, b ≠ s.heap.objs.size → g0.get? b = some o → ((g0.update s.heap.objs.size (Obj.mapSeq (·.push Value.none))).update s.heap.objs.size (Obj.mapSeq (·.pop))).get? b = some o :=
    fun b o hb q => (Heap.get?_update_other _ _ (Ne.symm hb)).trans ((Heap.get?_update_other _ _ (Ne.symm hb)).trans q)
  have ne := Nat.ne_of_lt le
  have ni := Nat.ne_of_lt li
  have nt := Nat.ne_of_lt lt
  refine wpAny_pure ⟨plainId_quiet F.plain_extend_loop _, loopT (A := A) hh n1 n2 n3 (Ne.symm ne) (Ne.symm ni) (Ne.symm nt) hz (.ref s.heap.objs.size) items.size 0 _ _ _ (Nat.sub_zero _) (Nat.zero_le _)
    ⟨.inl ⟨rfl, old, oth e _ ne he0⟩, hi.at fun o q => oth it o ni (k0 _ _ q), ht.at fun o q => oth t o nt (k0 _ _ q), hS3, rfl, ⟨fun j v hv => by simp at hv⟩⟩ fun h' tk' acc c' r1 r2 r3 r4 => ?_⟩
  (show wpAny _ A (load s.heap.objs.size >>= _) _ _ _)
  refine wpAny_bind (wpAny_load r3 (wpAny_pure (hQ h' tk' acc r1 (fun j v hv => ?_) (fun b o b1 b2 q => ?_) (Heap.lt_size r3))))
  · obtain ⟨T, tk, x, p1, p2, p3, _, _, _, p4⟩ := r2.at_ j v hv
    exact ⟨T, tk, x, p1, p2, p3, p4⟩
  · have nb : b ≠ s.heap.objs.size := Nat.ne_of_lt (Heap.lt_size q)
    exact r4 b o b1 b2 nb (oth b o nb (k0 b o q))
/-- tuple(e) -/
theorem call_tupleT (hh : A.handled = none) {items : Array Value} {e it t : Addr} {old : Value} (n1 : e ≠ it) (n2 : t ≠ it) (n3 : t ≠ e) (hz : items.size ≤ sizeLine) (he : IsEnum s.heap e it 0 old) (hi : s.heap.IsTupleIter it t 0) (ht : s.heap.IsTuple t items) {Q : Value → Shared → Prop}
    (hQ : ∀ (h' : Heap) (tk' : Tok) (acc : Array Value), acc.size = items.size → (∀ (j : Nat) (v : Value), acc[j]? = some v → ∃ (T : Addr) (tk : Tok) (x : Value), v = .ref T ∧ items[j]? = some x ∧ h'.get? T = some { cls := .type "tuple", data := .seq #[.int (j : Int) tk, x] } ∧ e < T) →
      (∀ b o, b ≠ e → b ≠ it → s.heap.get? b = some o → h'.get? b = some o) → s.heap.objs.size < h'.objs.size → Q (.ref h'.objs.size) { s with heap := h'.push { cls := .type "tuple", data := .seq acc }, toks := tk' }) : wpAny (model prog w) A (call (.type "tuple") [.ref e]) Q E s := by
  have isTy : s.TypeIs (.ref e) "enumerate" := ⟨_, he, rfl⟩
  have core : codeAny (model prog w) A.in1 (.call (.builtin "tuple.__new__") ⟨[.type "tuple", .ref e], []⟩) (wants (fun obj s1 => s1.TypeIs obj "tuple" ∧ Q obj s1) E) s := by
    refine codeAny_of_tree ?_
    show wpAny _ A.in1.in1 (do checkBuiltinCall "tuple.__new__" ⟨[.type "tuple", .ref e], []⟩; again (.builtin "tuple.__new__" ⟨[.type "tuple", .ref e], []⟩)) _ _ s
    refine wpAny_bind (wpAny_of_eq (F.newCall_tuple_1 _) (wpAny_pure ⟨plainId_quiet F.plain_tuple_new _, codeAny_builtin F.entry_tuple_new ?_⟩)); rw [Around.under_plainId F.plain_tuple_new _]
    have u1 := sub_tuple_self
    have u2 := init_tuple_lookup
    have u3 := madeHere_tuple
    wp_walk using wpAny_typeOf isTy, collectT (s := s) (A := A.in1.in1) (show A.in1.in1.handled = none from hh) n1 n2 n3 hz he hi ht
    intro h' tk' acc r1 r2 r3 r4
    (show wpAny _ _ (Builtin.Tuple.tupleExact acc.toList.toArray >>= fun v => ret v) _ _ _)
    (unfold Builtin.Tuple.tupleExact)
    have ea : acc.toList.toArray = acc := by simp
    rw [ea]
    refine wpAny_bind (wpAny_newObj_type (wpAny_pure ?_) (by show acc.size ≤ sizeLine; rw [r1]; exact hz))
    exact ⟨⟨_, Heap.get?_push_size _ rfl, rfl⟩, hQ h' tk' acc r1 r2 r3 r4⟩
  refine callType_codes (Q₁ := fun obj s1 => s1.TypeIs obj "tuple" ∧ Q obj s1) F.called_tuple (F.typeCall_tuple_1 _) F.entry_object_init core fun obj s1 h1 => ?_
  exact ⟨h1.1, F.args_object_init_2 obj _, object_init_meets F.called_tuple.init.lookup F.called_tuple.made (by decide) prog w A.in1 _ s1 ⟨h1.1, rfl, h1.2⟩⟩
end
end PVQ
end

section
set_option maxRecDepth 100000
namespace PV
open L2 PySem PySem.Spec PyProof.Rows
def pairsV (n : Nat) : List V → List (List V)
  | [] => []
  | v :: vs => [.int (n : Int), v] :: pairsV (n + 1) vs
theorem build_ps {h : Heap} {e : Addr} : ∀ {vs : List V} {its accl : List Value} {n : Nat}, Vals vs its → accl.length = its.length →
    (∀ (j : Nat) (v : Value), accl[j]? = some v → ∃ (T : Addr) (tk : Tok) (x : Value), v = .ref T ∧ its[j]? = some x ∧ h.get? T = some { cls := .type "tuple", data := .seq #[.int ((n + j : Nat) : Int) tk, x] } ∧ e < T) →
    ∃ ps : List (Addr × List V), accl = ps.map (fun p => Value.ref p.1) ∧ ps.map (·.2) = pairsV n vs ∧ (∀ p ∈ ps, e < p.1 ∧ p.2.length ≤ 2 ∧ ∃ us : List Value, Vals p.2 us ∧ IsTup h p.1 us.toArray) ∧ (ps.map (·.1)).Nodup ∧
      ∀ p ∈ ps, ∃ (j : Nat) (tk : Tok) (x : Value), n ≤ j ∧ h.get? p.1 = some { cls := .type "tuple", data := .seq #[.int (j : Int) tk, x] }
  | _, _, [], n, .nil, _, _ => ⟨[], rfl, rfl, fun p hp => (by cases hp), List.nodup_nil, fun p hp => (by cases hp)⟩
  | _, _, _ :: _, _, .nil, hl, _ => by cases hl
  | _, _, [], _, .cons _ _, hl, _ => by cases hl
  | v :: vs, it :: its, a :: accl, n, .cons r t, hl, hh => by
    obtain ⟨T, tk, x, e1, e2, e3, e4⟩ := hh 0 a rfl
    have e2 : it = x := by simpa using e2
    subst e1 e2
    obtain ⟨ps, q1, q2, q3, q4, q5⟩ := build_ps (h := h) (e := e) (n := n + 1) t (Nat.succ.inj hl) fun j w hw => by
      obtain ⟨T', tk', x', p1, p2, p3, p4⟩ := hh (j + 1) w (by simpa using hw)
      exact ⟨T', tk', x', p1, by simpa using p2, by rw [show n + 1 + j = n + (j + 1) by omega]; exact p3, p4⟩
    refine ⟨(T, [.int (n : Int), v]) :: ps, by rw [q1]; rfl, by rw [List.map_cons, q2]; rfl, fun p hp => ?_, ?_, fun p hp => ?_⟩
    · (rcases List.mem_cons.mp hp with rfl | hp)
      · exact ⟨e4, Nat.le_refl _, [.int (n : Int) tk, it], .cons ⟨tk, rfl⟩ (.cons r .nil), ⟨_, e3, rfl, _, rfl⟩⟩
      · exact q3 p hp
    · rw [List.map_cons, List.nodup_cons]
      refine ⟨fun hm => ?_, q4⟩
      obtain ⟨p, hp, e0⟩ := List.mem_map.mp hm
      obtain ⟨j, tk2, x2, hj, g2⟩ := q5 p hp
      have e0 : p.1 = T := e0
      rw [e0, e3] at g2
      have := congrArg (fun o : Option Obj => o.map (·.data)) g2
      simp at this
      omega
    · (rcases List.mem_cons.mp hp with rfl | hp)
      · exact ⟨n, tk, it, Nat.le_refl _, e3⟩
      · obtain ⟨j, tk2, x2, hj, g2⟩ := q5 p hp
        exact ⟨j, tk2, x2, by omega, g2⟩
/-- tuples laid at once -/
def layH (lo : Nat) (ps : List (Addr × List V)) (H : Hp) : Hp := fun b => if b < lo then H b else (ps.lookup b).map HO.tup
theorem lay_lt {lo : Nat} {ps : List (Addr × List V)} {H : Hp} {b : Addr} (h : b < lo) : layH lo ps H b = H b := if_pos h
theorem lookup_of {α : Type} : ∀ {ps : List (Addr × α)} {p : Addr × α}, (ps.map (·.1)).Nodup → p ∈ ps → ps.lookup p.1 = some p.2
  | [], _, _, h => by cases h
  | q :: ps, p, nd, h => by
    (rw [List.map_cons, List.nodup_cons] at nd)
    rcases List.mem_cons.mp h with rfl | h2
    · obtain ⟨a, b⟩ := p
      simp [List.lookup]
    · have hne : (p.1 == q.1) = false := by
        simp only [beq_eq_false_iff_ne]
        intro e
        exact nd.1 (List.mem_map.mpr ⟨p, h2, e⟩)
      obtain ⟨qa, qb⟩ := q
      simp only [List.lookup]
      rw [show (p.1 == qa) = false from hne]
      exact lookup_of nd.2 h2
theorem mem_of_lookupA {α : Type} : ∀ {ps : List (Addr × α)} {b : Addr} {x : α}, ps.lookup b = some x → (b, x) ∈ ps
  | [], _, _, h => by simp [List.lookup] at h
  | (a, y) :: ps, b, x, h => by
    simp only [List.lookup] at h
    split at h
    · rename_i e
      cases h
      rw [beq_iff_eq.mp e]; exact List.mem_cons_self
    · exact List.mem_cons_of_mem _ (mem_of_lookupA h)
section
variable {X : Cx} {pins : List (Addr × Obj)} {σ : L2.St} {H : Hp} {s : Shared} {h' : Heap} {ps : List (Addr × List V)}
theorem inv_lay {tk : Nat} (I : L2.Inv X pins σ H s) (k : ∀ b u, s.heap.get? b = some u → h'.get? b = some u) (hp : ∀ p ∈ ps, s.heap.objs.size ≤ p.1) (hl : ∀ p ∈ ps, p.2.length ≤ sizeLine ∧ ∃ us : List Value, Vals p.2 us ∧ IsTup h' p.1 us.toArray) :
    L2.Inv X pins σ (layH s.heap.objs.size ps H) { s with heap := h', toks := tk } := by
  have lt : ∀ {b : Addr} {u : HO}, H b = some u → b < s.heap.objs.size := fun e => I.hok.lt e
  have same : ∀ {b : Addr} {u : HO}, H b = some u → layH s.heap.objs.size ps H b = some u := fun e => (lay_lt (lt e)).trans e
  refine I.un ⟨fun b u q _ _ _ => k b u q, fun b u q _ _ _ => ⟨u.slots, k b u q⟩, fun b u q n _ => (lay_lt (Heap.lt_size q)).trans n, fun b u q _ => ⟨u, k b u q⟩, fun b xs q => same q, fun b u xs q => same q, fun b xs q => ⟨#[], by rw [same q]; simp⟩⟩ fun b u e => ?_
  by_cases hb : b < s.heap.objs.size
  · rw [lay_lt hb] at e
    exact (I.hok b u e).stay (fun c v _ q => k c v q) (fun c q => same q) fun c xs q => same q
  · have e : (ps.lookup b).map HO.tup = some u := by
      have e2 : (if b < s.heap.objs.size then H b else (ps.lookup b).map HO.tup) = some u := e
      rwa [if_neg hb] at e2
    cases hq : ps.lookup b with
    | none => rw [hq] at e; cases e
    | some xs =>
      rw [hq] at e; cases e
      obtain ⟨z, us, r, t⟩ := hl _ (mem_of_lookupA hq)
      exact ⟨z, us, r, t⟩
end
theorem rds_pairs {K : PySem.W.Frag} {J : Jn} {H : Hp} : ∀ {ds : List D} {vs : List V} {ps : List (Addr × List V)} {n : Nat}, RDs K J H ds vs → ps.map (·.2) = pairsV n vs → (∀ p ∈ ps, p.1 ∉ J.l ∧ p.1 ∉ J.z ∧ H p.1 = some (.tup p.2)) → RDs K J H (enumD n ds) (ps.map fun p => V.ref p.1)
  | _, _, [], _, .nil, _, _ => .nil
  | _, _, _ :: _, _, .nil, e, _ => by cases e
  | _, _, [], _, .cons _ _, e, _ => by cases e
  | d :: ds, v :: vs, p :: ps, n, .cons r t, e, hp => by
    rw [List.map_cons] at e
    have e1 : p.2 = [.int (n : Int), v] := (List.cons.inj e).1
    obtain ⟨q1, q2, q3⟩ := hp p List.mem_cons_self
    rw [e1] at q3
    exact .cons (.tup q1 q2 q3 (by show 2 ≤ sizeLine; decide) (.cons (.int _) (.cons r .nil))) (rds_pairs t (List.cons.inj e).2 fun q hq => hp q (List.mem_cons_of_mem _ hq))
theorem vals_refs : ∀ (ps : List (Addr × List V)), Vals (ps.map fun p => V.ref p.1) (ps.map fun p => Value.ref p.1)
  | [] => .nil
  | p :: ps => .cons rfl (vals_refs ps)
section
variable {X : Cx} {pins : List (Addr × Obj)} {σ : L2.St} {H : Hp} {s : Shared} {J : Jn} {h : Hh}
/-- tuple(enumerate(a tuple)) -/
theorem tenum_run {a : Addr} {ds : List D} {Q : VK} (hc : X.calm = true) (I : L2.Inv X pins σ H s) (rh : RH X.K J h H) (rx : RD X.K J H (.tup ds) (.ref a)) (q : ∀ J' H' v, Ext J H J' H' → RH X.K J' h H' → RD X.K J' H' (.tup (enumD 0 ds)) v → Q v H') :
    wpAny (model X.prog X.w) X.A (call (.type "enumerate") [.ref a]) (fun ev s2 => wpAny (model X.prog X.w) X.A (call (.type "tuple") [ev]) (EP X pins σ Q) X.xe s2) X.xe s := by
  obtain ⟨a', vs, ea, hq, z, rs⟩ := rx.tup_inv
  cases ea
  obtain ⟨its, rv, tp, hz⟩ := I.tuple hq
  (have hh : X.A.handled = none := I.ok.hd hc)
  have la : a < s.heap.objs.size := by obtain ⟨o, g, _⟩ := tp; exact Heap.lt_size g
  refine PVQ.call_enumT tp fun g he hi hsz kp => ?_
  have tp2 : g.IsTuple a its.toArray := (show s.heap.IsTuple a its.toArray from tp).at fun o e => kp a o e
  refine PVQ.call_tupleT (s := { s with heap := g }) hh (Nat.succ_ne_self _) (Nat.ne_of_lt la) (Nat.ne_of_lt (Nat.lt_succ_of_lt la)) (by rw [List.size_toArray, ← rv.length]; exact hz) he hi tp2 fun g' tk acc r1 r2 r3 r4 => ?_
  have keep : ∀ b u, s.heap.get? b = some u → g'.get? b = some u := fun b u e => by
    have lb := Heap.lt_size e
    exact r3 b u (Nat.ne_of_lt (Nat.lt_succ_of_lt lb)) (Nat.ne_of_lt lb) (kp b u e)
  obtain ⟨ps, p1, p2, p3, p4, _⟩ := build_ps (h := g') (e := s.heap.objs.size + 1) (n := 0) (accl := acc.toList) rv (by rw [Array.length_toList, r1, List.size_toArray]) fun j v hv => by
    obtain ⟨T, t2, x, e1, e2, e3, e4⟩ := r2 j v (by simpa using hv)
    exact ⟨T, t2, x, e1, by simpa using e2, by rw [Nat.zero_add]; exact e3, e4⟩
  have lps : ps.length = vs.length := by
    have := congrArg List.length p2
    rw [List.length_map] at this
    rw [this]
    have gen : ∀ (vs : List V) (n : Nat), (pairsV n vs).length = vs.length := by
      intro vs
      induction vs with
      | nil => intro n; rfl
      | cons v vs ih => intro n; show (pairsV (n + 1) vs).length + 1 = _; rw [ih]; rfl
    exact gen vs 0
  -- the last tuple
  have g1 : ∀ p ∈ ps, p.1 < g'.objs.size := fun p hp => by
    obtain ⟨_, _, us, _, o, go, _⟩ := p3 p hp
    exact Heap.lt_size go
  have big : s.heap.objs.size ≤ g'.objs.size := by
    have r4 : g.objs.size < g'.objs.size := r4
    rw [hsz] at r4; exact Nat.le_of_lt (Nat.lt_trans (Nat.lt_succ_of_lt (Nat.lt_succ_self _)) r4)
  let all : List (Addr × List V) := (g'.objs.size, ps.map fun p => V.ref p.1) :: ps
  have nd : (all.map (·.1)).Nodup := by
    show (g'.objs.size :: ps.map (·.1)).Nodup
    refine List.nodup_cons.mpr ⟨fun hm => ?_, p4⟩
    (obtain ⟨p, hp, e⟩ := List.mem_map.mp hm)
    have e : p.1 = g'.objs.size := e
    exact Nat.lt_irrefl _ (e ▸ g1 p hp)
  have acc2 : acc = (ps.map fun p => Value.ref p.1).toArray := by rw [← p1]
  have I2 := inv_lay (ps := all) (h' := g'.push { cls := .type "tuple", data := .seq acc }) (tk := tk) I (fun b u e => Heap.get?_push_of_some _ (keep b u e)) (fun p hp => by
    (rcases List.mem_cons.mp hp with rfl | hp)
    · exact big
    · exact Nat.le_of_lt (Nat.lt_trans (Nat.lt_succ_self _) (p3 p hp).1)) (fun p hp => by
    (rcases List.mem_cons.mp hp with rfl | hp)
    · refine ⟨by rw [List.length_map, lps]; exact z, _, vals_refs ps, ⟨_, Heap.get?_push_size _ rfl, rfl, 0, by rw [acc2]⟩⟩
    · obtain ⟨_, l2, us, ru, o, go, gc⟩ := p3 p hp
      exact ⟨Nat.le_trans l2 (by show 2 ≤ sizeLine; decide), us, ru, ⟨o, Heap.get?_push_of_some _ go, gc⟩⟩)
  have at_ : ∀ p ∈ all, s.heap.objs.size ≤ p.1 → layH s.heap.objs.size all H p.1 = some (.tup p.2) := fun p hp hb => by
    show (if p.1 < s.heap.objs.size then H p.1 else (all.lookup p.1).map HO.tup) = _
    rw [if_neg (Nat.not_lt.mpr hb), lookup_of nd hp]; rfl
  have ext : Ext J H J (layH s.heap.objs.size all H) := ⟨rfl, ⟨[], by simp, by simp⟩, fun b o _ e => (lay_lt (I.hok.lt e)).trans e⟩
  have nl : ∀ b, s.heap.objs.size ≤ b → b ∉ J.l ∧ b ∉ J.z := fun b hb => by
    have hn : H b = none := I.hok.fresh hb
    exact ⟨rh.notin hn, rh.notz hn⟩
  have rh2 : RH X.K J h (layH s.heap.objs.size all H) := ⟨rh.nd, rh.len, fun i o e => by
    obtain ⟨b, u, h1, h2, h3⟩ := rh.obj i o e
    exact ⟨b, u, h1, (lay_lt (I.hok.lt h2)).trans h2, h3.ext ext⟩, rh.apart, fun b hb => by
    cases hbu : H b with
    | none => exact absurd hbu (rh.zed b hb)
    | some u => rw [(lay_lt (I.hok.lt hbu)).trans hbu]; simp⟩
  refine ⟨.ref g'.objs.size, _, I2, rfl, q J _ _ ext rh2 (.tup (nl _ big).1 (nl _ big).2 (at_ _ List.mem_cons_self big) (by rw [List.length_map, lps]; exact z) (rds_pairs (rs.ext ext) p2 fun p hp => ?_))⟩
  have hb : s.heap.objs.size ≤ p.1 := Nat.le_of_lt (Nat.lt_trans (Nat.lt_succ_self _) (p3 p hp).1)
  exact ⟨(nl _ hb).1, (nl _ hb).2, at_ p (List.mem_cons_of_mem _ hp) hb⟩
end
end PV
end

section
set_option maxRecDepth 100000
/-! PvS: t.index(n), t a tuple or a list of whole numbers, n in it; a written tuple as a frozen object whose dict is known. -/
namespace PV
open PySem PySem.Spec PyProof.Rows L2 PV
theorem intsAre_of : ∀ {ns : List Int} {us : List Value}, Vals (ns.map V.int) us → IntsAre us ns
  | [], _, .nil => .nil
  | n :: ns, _, .cons r t => by
    obtain ⟨k, rfl⟩ := r
    exact .cons n k (intsAre_of t)
section
variable {X : Cx}
def rIdx (S : PySem.W.Frag → Hp → Addr → List V → Prop) (K : PySem.W.Frag) : V → List V → Hp → VK → Prop :=
  fun x xs H Q => ∃ p, ∃ ns : List Int, ∃ z, x = .ref p ∧ xs = [.int z] ∧ S K H p (ns.map V.int) ∧ z ∈ ns ∧ Q (.int (ns.idxOf z : Nat)) H
theorem mt_tupIdx : MtR X "tuple.index" (rIdx SqT X.K) := by
  intro pins s σ H x xs v us Q I rx rs g
  obtain ⟨p, ns, z, rfl, rfl, hq, hz, q⟩ := g
  cases rx
  (obtain ⟨u, rfl, t, rfl⟩ := vals1 rs)
  obtain ⟨its, r, pl, hl⟩ := I.tuple hq
  exact SeqAt.tuple_index_ints pl (intsAre_of r) hz ⟨.int (ns.idxOf z : Nat), H, I.tok _, ⟨_, rfl⟩, q⟩
theorem mt_lstIdx : MtR X "list.index" (rIdx SqL X.K) := by
  intro pins s σ H x xs v us Q I rx rs g
  obtain ⟨p, ns, z, rfl, rfl, hq, hz, q⟩ := g
  cases rx
  (obtain ⟨u, rfl, t, rfl⟩ := vals1 rs)
  obtain ⟨its, r, ⟨o, n, p1, p2, p3, p4⟩, hl⟩ := I.list hq
  exact SeqAt.list_index_ints ⟨o, p1, p2, n, p4⟩ (intsAre_of r) (by rw [List.length_map] at hl; exact hl) hz ⟨.int (ns.idxOf z : Nat), H, I.tok _, ⟨_, rfl⟩, q⟩
/-- a written tuple, its cell a frozen object without a dict -/
def tFtup (t : TA) : TE := fun σ H Q => t σ H fun xs H1 => xs.length ≤ sizeLine ∧ ∀ p o, H1 p = none → o.cls = .type "tuple" → o.dict = none → Q (.ref p) (upd H1 p (.frz o (.tup xs)))
theorem pe_ftup {es : List Expr} {t : TA} {pos : Pos} {x1 : Nat} (h : PA X es t) : PE X (.Tuple es x1 pos) (tFtup t) := by
  (refine ⟨fun pins s σ H Q I hq => ?_⟩)
  (refine wpAny_Tuple_spliced (thn (h.run pos pins s σ H _ I hq) fun us s1 ⟨xs, H1, I1, r, z, q⟩ => ⟨by rw [← r.length]; exact z, ?_⟩))
  (have hf : H1 s1.heap.objs.size = none := I1.hok.fresh (Nat.le_refl _))
  have e0 := Heap.get?_push_size s1.heap (o := { cls := .type "tuple", data := .seq us.toArray }) rfl
  refine ⟨.ref s1.heap.objs.size, _, I1.laid (t' := s1.toks) (fun b u e => Heap.get?_push_of_some _ e) (Nat.le_refl _) ?_, rfl, q _ { cls := .type "tuple", data := .seq us.toArray } hf rfl rfl⟩
  exact ⟨e0, z, us, r, ⟨_, e0, rfl, _, rfl⟩⟩
/-- a method of a tuple whose dict is known to be none -/
def tFM (r : V → List V → Hp → VK → Prop) (to : TE) (t : TA) : TE := fun σ H Q => to σ H fun x H1 => (∃ p o xs, x = .ref p ∧ H1 p = some (.frz o (.tup xs)) ∧ o.cls = .type "tuple" ∧ o.dict = none) ∧ t σ H1 fun xs H2 => r x xs H2 Q
theorem pe_fm {o e : Expr} {es : List Expr} {to : TE} {t : TA} {name : Str} {apos cpos : Pos} {id : String} {r : V → List V → Hp → VK → Prop} (slot : Slot "tuple" name id) (hty : typeOf (.builtin id) = pure (.type "method_descriptor")) (hm : MtR X id r) (ho : PE X o to) (ha : PA X (e :: es) t)
    (hbase : attributeBase o name X.env (eval o X.env) = eval o X.env)
    (hfew : ((backTo cpos (starEach (e :: es) X.env)).all (fun x => !x.1) && (backToKw cpos (keywordEach [] X.env)).all (fun x => x.1.isSome) && decide ((e :: es).length + ([] : List Keyword).length + (if ([] : List Keyword).isEmpty then 0 else 1) < 30)) = true)
    (hline : (apos.endLine == cpos.line) = true) (hs : starEach (e :: es) X.env = (false, eval e X.env) :: starEach es X.env) (hplain : (backTo cpos (starEach es X.env)).any (·.1) = false) :
    PE X (.Call (.Attribute o name apos) (e :: es) [] cpos) (tFM r to t) := by
  (refine ⟨fun pins s σ H Q I h => ?_⟩)
  refine wpAny_Call_method_late hbase hfew hline rfl (thn (ho.run pins s σ H _ I h) fun v s1 ⟨x, H1, I1, r1, ⟨p, ob, ys, ex, hp, hc, hd⟩, q1⟩ => ?_)
  subst ex
  cases r1
  obtain ⟨e0, _⟩ := (show ObjOk X.prog X.w H1 s1.heap p (.frz ob (.tup ys)) from I1.hok p _ hp)
  refine ⟨"tuple", id, PySem.F.plainAttrs_tuple, slot, hty, ⟨ob, e0, hc⟩, fun a ea => by cases ea; exact ⟨ob, e0, hd⟩, ?_⟩
  (have hA := ha.run cpos pins s1 σ H1 _ I1 q1)
  rw [hs] at hA ⊢
  (refine Calls.callWith_builtin (by show (false || (backTo cpos (starEach es X.env)).any (·.1)) = false; rw [hplain] <;> rfl) (Calls.evalArgs_plain ?_))
  refine thn hA fun us s2 ⟨xs, H2, I2, rs, q2⟩ => ?_
  exact hm pins s2 σ H2 (.ref p) xs (.ref p) us Q I2 rfl rs q2
end
end PV
end

section
set_option maxRecDepth 100000
namespace PV
open L2 PySem PySem.Spec PyProof.Rows
section
variable {X : Cx} {e x a b tg : Expr} {p pa pb pc : P} {pos np cpos apos : Pos} {K : PySem.W.Frag} {J : Jn} {H : Hp} {h : Hh} {es : List Expr} {pl : PL} {y : Str}

theorem lcLoop_lst (good : Hh → Bool) (turn : D → Hh → R (Option D)) : ∀ (xs acc : List D) (h : Hh) (d : D) (h' : Hh), lcLoop good turn xs acc h = .ok d h' → ∃ ds, d = .lst ds
  | [], acc, h, d, h', e => by
    unfold lcLoop at e
    split at e
    · cases e; exact ⟨_, rfl⟩
    · cases e
  | x :: xs, acc, h, d, h', e => by
    unfold lcLoop at e
    split at e
    · split at e
      · exact lcLoop_lst good turn xs _ _ d h' e
      · exact lcLoop_lst good turn xs _ _ d h' e
      · cases e
    · cases e
theorem lc_lst {f : Env → Hh → R Src} {t : Tg} {pt pe : P} (ρ : Env) (h : Hh) (d : D) (h' : Hh)
    (e : ((f ρ h).bind fun s h1 => if sizeOk s.items.length then lcLoop s.good (lcTurn t pt pe ρ) s.items [] h1 else .bad) = .ok d h') : ∃ ds, d = .lst ds := by
  cases ev : f ρ h with
  | ok s h1 =>
    rw [ev, R.bind_ok] at e
    split at e
    · exact lcLoop_lst _ _ _ _ _ _ _ e
    · cases e
  | bad => rw [ev] at e; cases e
  | err _ _ => rw [ev] at e; cases e

/-! ### an empty dict -/
theorem se_dic0 : SE X (.Dict [] [] pos) (.plain fun _ h => .ok (.ref h.length) (h ++ [.dct []])) := by
  refine SE.plain (pe_dnewK.imp fun σ H Q ⟨ρ, h, J, re, rh, q⟩ => ?_) (fun _ => rfl)
  intro p np
  have rh2 : RH X.K (J.own p) (h ++ [.dct []]) (upd H p (.dK [])) := (rh.hide np).own (rh.notz np) upd_same (.dct (Nat.zero_le _) .nil)
  refine q _ _ _ (Ext.own np (Ext.laid np)) rh2 (.ref ?_)
  show (J.l ++ [p])[h.length]? = some p
  rw [← rh.len, List.getElem?_append_right (Nat.le_refl _)]; simp

/-! ### calls -/
def plainXs : List Expr → Bool
  | [] => true
  | e :: es => plainX e && plainXs es
theorem plainXs_any (pos : Pos) (env : PySem.Env) : ∀ {es : List Expr}, plainXs es = true → (backTo pos (starEach es env)).any (·.1) = false
  | [], _ => rfl
  | e :: es, h => by
    simp only [plainXs, Bool.and_eq_true] at h
    rw [plain_star h.1]
    have := plainXs_any pos env h.2
    unfold backTo at this ⊢
    rw [List.map_cons, List.any_cons, this]; rfl
theorem glb_dbg {c : Cs} (h : c.glb y = true) : (y == ("__debug__" : Str)) = false := by
  simp only [Cs.glb, Bool.and_eq_true, Bool.not_eq_true'] at h; exact h.2
section
variable {c : Cs} {F : Fns} {G : List D} {fn : Fn} {f : Nat}
/-- the callee runs -/
theorem run_g {k : Nat} {fa : Addr} {fd : FuncData} {ps : List Str} {sp : Sp} {pins : List (Addr × Obj)} {σ : L2.St} {H : Hp} {s : Shared} {Q : VK} {args : Args} {us : List Value} {vs : List V} (hF : FnG X.prog X.w X.K X.mg X.base k fa fd ps sp) (hr : Room k X.A) (hgd : X.A.guards = some [])
    (I : L2.Inv X pins σ H s) (hb : BindsTo s fd args (ps.zip us)) (r : Vals vs us) (h : sp vs H Q E0) : wpAny (model X.prog X.w) X.A (PySem.call (.ref fa) args.pos args.kw) (EP X pins σ Q) X.xe s := by
  refine wpAny_call (codeAny_mono (hF.go hr hgd I.env0 hb r h) fun o s' hq => ?_)
  cases o with
  | error e =>
    obtain ⟨_, _, _, _, _, _, _, _, _, _, _, _, z⟩ := hq
    exact z.elim
  | ok fl =>
    cases fl with
    | ret u => exact I.after hq
    | next => exact False.elim hq
    | brk => exact False.elim hq
    | cont => exact False.elim hq
theorem se_call (o : Ok c F G X) (hf : c.T[f]? = some fn) (hn : fn.name = y) (hg : c.glb y = true) (hp : plainXs es = true) (h0 : es = [] → pl.l = fun _ h => .ok [] h) (hlen : ∀ ρ h ds h', pl.l ρ h = .ok ds h' → ds.length = fn.P.length) (hl : SEs X es pl) :
    SE X (.Call (.Name y np) es [] pos) (.plain fun ρ h => (pl.l ρ h).bind fun xs h1 => F f xs h1) := by
  obtain ⟨k, hr, hgd, hc⟩ := o.call.ok
  obtain ⟨fa, fd, hm, hk, hF, hb, _⟩ := hc f fn hf
  rw [hn] at hm
  obtain ⟨g1, g2⟩ := glb_ok o hg
  refine SE.plain ⟨fun pins s σ H Q I ⟨ρ, h, J, re, rh, q⟩ => ?_⟩ (fun _ => rfl)
  refine wpAny_Call_Name_kw (ld_glob I g1 hm ?_ g2)
  have run : ∀ {us : List Value} {vs : List V} {J1 : Jn} {h1 : Hh} {H1 : Hp} {s1 : Shared} {ds : List D}, L2.Inv X pins σ H1 s1 → Vals vs us → RH X.K J1 h1 H1 → RDs X.K J1 H1 ds vs → ds.length = fn.P.length → Post X.K J1 H1 (rD X.K) (F f ds h1) Q →
      wpAny (model X.prog X.w) X.A (PySem.call (.ref fa) us) (EP X pins σ Q) X.xe s1 := by
    intro us vs J1 h1 H1 s1 ds I1 r rh1 rs hl1 q1
    have hul : us.length = fn.P.length := by rw [← r.length, ← rs.length]; exact hl1
    have hb1 := hb s1 us I1.kIn (by rw [List.append_nil]; exact hul)
    rw [List.append_nil] at hb1
    exact run_g (args := ⟨us, []⟩) hF hr hgd I1 hb1 r ⟨by rw [← rs.length]; exact hl1, J1, h1, ds, rs, rh1, q1.x⟩
  cases es with
  | nil =>
    rw [h0 rfl] at q
    exact PySem.W.callWith_K0 I.kIn hk (run (us := []) (ds := []) I .nil rh .nil (hlen [] [] [] [] (by rw [h0 rfl])) q)
  | cons e es =>
    simp only [plainXs, Bool.and_eq_true] at hp
    refine PySem.W.callWith_K (h₀ := X.base) I.ok.mod.kin hk (thn (hl.l.run pos pins s σ H _ I (?_ : tG X.K (rDs X.K) pl.l σ H (fun vs H1 => ∃ J1 h1 ds, RH X.K J1 h1 H1 ∧ RDs X.K J1 H1 ds vs ∧ ds.length = fn.P.length ∧ Post X.K J1 H1 (rD X.K) (F f ds h1) Q))) fun us s1 ⟨vs, H1, I1, r, J1, h1, ds, rh1, rs, hl1, q1⟩ => ⟨I1.kIn, run I1 r rh1 rs hl1 q1⟩) (plain_star hp.1 _ _) (plainXs_any _ _ hp.2)
    refine ⟨ρ, h, J, re, rh, ?_⟩
    dsimp only at q
    cases ev : pl.l ρ h with
    | bad => rw [ev] at q; exact q
    | err _ _ => rw [ev] at q; exact q
    | ok ds h1 =>
      rw [ev, R.bind_ok] at q
      exact fun J1 H1 vs e1 rh1 rs => ⟨J1, h1, ds, rh1, rs, hlen _ _ _ _ ev, Post.ext rh rh1 e1 q⟩

/-- the callee runs, an exception goes on -/
theorem run_gX {W : WX} {k : Nat} {fa : Addr} {fd : FuncData} {ps : List Str} {sp : Sp} {pins : List (Addr × Obj)} {σ : L2.St} {H : Hp} {s : Shared} {Q : VK} {args : Args} {us : List Value} {vs : List V} (hF : FnG X.prog X.w X.K X.mg X.base k fa fd ps sp) (hr : Room k X.A) (hgd : X.A.guards = some []) (tk : Takes X W)
    (I : L2.Inv X pins σ H s) (hb : BindsTo s fd args (ps.zip us)) (r : Vals vs us) (h : sp vs H Q (WE W σ)) : wpAny (model X.prog X.w) X.A (PySem.call (.ref fa) args.pos args.kw) (EP X pins σ Q) X.xe s := by
  refine wpAny_call (codeAny_mono (hF.go hr hgd I.env0 hb r h) fun o s' hq => ?_)
  cases o with
  | error e => exact tk e s' (XE.of_call I (fun _ _ _ z => z) hq)
  | ok fl =>
    cases fl with
    | ret u => exact I.after hq
    | next => exact (False.elim hq)
    | brk => exact (False.elim hq)
    | cont => exact (False.elim hq)
/-- what is wanted behind a call whose exception goes on -/
def tCX (X : Cx) (W : WX) (F : Fns) (f n : Nat) (l : Env → Hh → R (List D)) : TE := fun σ H Q => tG X.K (rDs X.K) l σ H (fun vs H1 => ∃ J1 h1 ds, RH X.K J1 h1 H1 ∧ RDs X.K J1 H1 ds vs ∧ ds.length = n ∧ PostX X.K X.mg (WE W σ) J1 H1 (rD X.K) (F f ds h1) Q)
theorem pe_callX {W : WX} (o : Ok c F G X) (tk : Takes X W) (hf : c.T[f]? = some fn) (hn : fn.name = y) (hg : c.glb y = true) (hp : plainXs es = true) (h0 : es = [] → pl.l = fun _ h => .ok [] h) (hl : SEs X es pl) :
    PE X (.Call (.Name y np) es [] pos) (tCX X W F f fn.P.length pl.l) := by
  obtain ⟨k, hr, hgd, hc⟩ := o.call.ok
  obtain ⟨fa, fd, hm, hk, hF, hb, _⟩ := hc f fn hf
  rw [hn] at hm
  obtain ⟨g1, g2⟩ := glb_ok o hg
  (refine ⟨fun pins s σ H Q I q => ?_⟩)
  refine wpAny_Call_Name_kw (ld_glob I g1 hm ?_ g2)
  have run : ∀ {us : List Value} {vs : List V} {J1 : Jn} {h1 : Hh} {H1 : Hp} {s1 : Shared} {ds : List D}, L2.Inv X pins σ H1 s1 → Vals vs us → RH X.K J1 h1 H1 → RDs X.K J1 H1 ds vs → ds.length = fn.P.length → PostX X.K X.mg (WE W σ) J1 H1 (rD X.K) (F f ds h1) Q →
      wpAny (model X.prog X.w) X.A (PySem.call (.ref fa) us) (EP X pins σ Q) X.xe s1 := by
    intro us vs J1 h1 H1 s1 ds I1 r rh1 rs hl1 q1
    have hul : us.length = fn.P.length := by rw [← r.length, ← rs.length]; exact hl1
    have hb1 := hb s1 us I1.kIn (by rw [List.append_nil]; exact hul)
    rw [List.append_nil] at hb1
    exact run_gX (args := ⟨us, []⟩) hF hr hgd tk I1 hb1 r ⟨by rw [← rs.length]; exact hl1, J1, h1, ds, rs, rh1, q1⟩
  cases es with
  | nil =>
    unfold tCX at q
    rw [h0 rfl] at q
    obtain ⟨ρ, h, J, re, rh, q⟩ := q
    obtain ⟨J1, h1, ds, rh1, rs, hl1, q1⟩ := q J H [] Ext.refl rh .nil
    exact PySem.W.callWith_K0 I.kIn hk (run (us := []) I .nil rh1 rs hl1 q1)
  | cons e es =>
    simp only [plainXs, Bool.and_eq_true] at hp
    exact PySem.W.callWith_K (h₀ := X.base) I.ok.mod.kin hk (thn (hl.l.run pos pins s σ H _ I q) fun us s1 ⟨vs, H1, I1, r, J1, h1, ds, rh1, rs, hl1, q1⟩ => ⟨I1.kIn, run I1 r rh1 rs hl1 q1⟩) (plain_star hp.1 _ _) (plainXs_any _ _ hp.2)

/-! ### calls with keywords -/
def kwNms (kws : List Keyword) : List Str := kws.filterMap (·.arg)
def kwAll (kws : List Keyword) : Bool := kws.all (·.arg.isSome)
theorem kws_facts (pos : Pos) (env : PySem.Env) : ∀ {kws : List Keyword}, kwAll kws = true → (backToKw pos (keywordEach kws env)).all (·.1.isSome) = true ∧ (backToKw pos (keywordEach kws env)).filterMap (·.1) = kwNms kws ∧ (backToKw pos (keywordEach kws env)).any (·.1.isNone) = false
  | [], _ => ⟨rfl, rfl, rfl⟩
  | ⟨nm, e, kp⟩ :: kws, h => by
    simp only [kwAll, List.all_cons, Bool.and_eq_true] at h
    obtain ⟨i1, i2, i3⟩ := kws_facts pos env (kws := kws) h.2
    cases nm with
    | none => cases h.1
    | some nm =>
      refine ⟨?_, ?_, ?_⟩
      · show (true && _) = true
        exact i1
      · exact congrArg (nm :: ·) i2
      · show (false || _) = false
        exact i3
theorem vals_getD : ∀ {vs : List V} {us : List Value} (k : Nat), Vals vs us → RelV (vs.getD k .non) (us.getD k .none)
  | _, _, _, .nil => by simp; rfl
  | _, _, 0, .cons r _ => r
  | _, _, k + 1, .cons _ t => by simpa using vals_getD k t
theorem vals_pm {vs zs : List V} {us ws : List Value} (r : Vals vs us) (z : Vals zs ws) : ∀ pm : List Nat, Vals (pmD .non pm vs zs) (pmD .none pm us ws)
  | [] => .nil
  | k :: pm => .cons (vals_getD k (r.append z)) (vals_pm r z pm)
theorem rds_getD {K : PySem.W.Frag} {J : Jn} {H : Hp} : ∀ {ds : List D} {vs : List V} (k : Nat), RDs K J H ds vs → RD K J H (ds.getD k .non) (vs.getD k .non)
  | _, _, _, .nil => by simp; exact .non
  | _, _, 0, .cons r _ => r
  | _, _, k + 1, .cons _ t => by simpa using rds_getD k t
theorem rds_pm {K : PySem.W.Frag} {J : Jn} {H : Hp} {ds es : List D} {vs ws : List V} (r : RDs K J H ds vs) (z : RDs K J H es ws) : ∀ pm : List Nat, RDs K J H (pmD .non pm ds es) (pmD .non pm vs ws)
  | [] => .nil
  | k :: pm => .cons (rds_getD k (r.append z)) (rds_pm r z pm)
theorem pm_len {α : Type} {d : α} {pm : List Nat} {xs ys : List α} : (pmD d pm xs ys).length = pm.length := by simp [pmD]
theorem se_callK {kws : List Keyword} {pk : PL} {n : Nat} {pm : List Nat} (o : Ok c F G X) (hf : c.T[f]? = some fn) (hn : fn.name = y) (hg : c.glb y = true) (hp : plainXs es = true) (hq : (n, kwNms kws, pm) ∈ fn.kw) (h0 : es = [] → pl.l = fun _ h => .ok [] h)
    (hlen : ∀ ρ h ds h', pl.l ρ h = .ok ds h' → ds.length = n) (hkl : ∀ ρ h ds h', pk.l ρ h = .ok ds h' → ds.length = (kwNms kws).length) (hka : kwAll kws = true) (hl : SEs X es pl) (hk : SEs X (kws.map (·.value)) pk) :
    SE X (.Call (.Name y np) es kws pos) (.plain fun ρ h => (pl.l ρ h).bind fun xs h1 => (pk.l ρ h1).bind fun ys h2 => F f (pmD .non pm xs ys) h2) := by
  obtain ⟨k, hr, hgd, hc⟩ := o.call.ok
  obtain ⟨fa, fd, hm, hkp, hF, hb, hkw⟩ := hc f fn hf
  have hkw := hkw _ hq
  rw [hn] at hm
  obtain ⟨g1, g2⟩ := glb_ok o hg
  obtain ⟨k1, k2, k3⟩ := kws_facts pos X.env hka
  refine SE.plain ⟨fun pins s σ H Q I ⟨ρ, h, J, re, rh, q⟩ => ?_⟩ (fun _ => rfl)
  refine wpAny_Call_Name_kw (ld_glob I g1 hm ?_ g2)
  -- the keywords and the call
  have tail : ∀ {us : List Value} {vs : List V} {J1 : Jn} {h1 : Hh} {H1 : Hp} {s1 : Shared} {ds : List D}, Inv X pins σ H1 s1 → Vals vs us → RE X.K J1 H1 ρ σ → RH X.K J1 h1 H1 → RDs X.K J1 H1 ds vs → vs.length = n →
      Post X.K J1 H1 (rD X.K) ((pk.l ρ h1).bind fun ys h2 => F f (pmD .non pm ds ys) h2) Q →
      wpAny (model X.prog X.w) X.A (evalAll ((backToKw pos (keywordEach kws X.env)).map (·.2))) (fun ks s₂ => X.K.In s₂.heap ∧ wpAny (model X.prog X.w) X.A (PySem.call (.ref fa) us (((backToKw pos (keywordEach kws X.env)).filterMap (·.1)).zip ks)) (EP X pins σ Q) X.xe s₂) X.xe s1 := by
    intro us vs J1 h1 H1 s1 ds I1 r re1 rh1 rs hl1 q1
    have hd : tG X.K (rDs X.K) pk.l σ H1 (fun zs H2 => zs.length = (kwNms kws).length ∧ ∃ J2 h2 es, RDs X.K J2 H2 (pmD .non pm ds es) (pmD .non pm vs zs) ∧ RH X.K J2 h2 H2 ∧ Post X.K J2 H2 (rD X.K) (F f (pmD .non pm ds es) h2) Q) := by
      refine ⟨ρ, h1, J1, re1, rh1, ?_⟩
      cases ev : pk.l ρ h1 with
      | bad => rw [ev] at q1; exact q1
      | err _ _ => rw [ev] at q1; exact q1
      | ok es h2 =>
        rw [ev, R.bind_ok] at q1
        intro J2 H2 zs e2 rh2 rz
        exact ⟨by rw [← rz.length]; exact hkl _ _ _ _ ev, J2, h2, es, rds_pm (rs.ext e2) rz pm, rh2, Post.ext rh1 rh2 e2 q1⟩
    refine thn ((hk.kw kws rfl).run pos pins s1 σ H1 _ I1 hd) fun ws s2 ⟨zs, H2, I2, rz, hzl, J2, h2, es, rr, rh2, q2⟩ => ⟨I2.kIn, ?_⟩
    rw [k2]
    refine run_g (args := ⟨us, (kwNms kws).zip ws⟩) hF hr hgd I2 (hkw.to s2 us ws I2.kIn ?_ ?_) (vals_pm r rz pm) ⟨?_, J2, h2, _, rr, rh2, q2.x⟩
    · rw [← r.length]; exact hl1
    · rw [← rz.length]; exact hzl
    · rw [pm_len, hkw.len]
  cases es with
  | nil =>
    rw [h0 rfl] at q
    refine PySem.W.callWith_KW0 (h₀ := X.base) I.ok.mod.kin hkp k1 (tail I .nil re rh .nil ?_ q) (by rw [k3]; rfl)
    have := hlen [] [] [] [] (by rw [h0 rfl])
    exact this
  | cons e es =>
    have hp' := hp
    simp only [plainXs, Bool.and_eq_true] at hp'
    refine PySem.W.callWith_KW (h₀ := X.base) I.ok.mod.kin hkp k1 (thn (hl.l.run pos pins s σ H _ I (?_ : tG X.K (rDs X.K) pl.l σ H (fun vs H1 => vs.length = n ∧ ∃ J1 h1 ds, RE X.K J1 H1 ρ σ ∧ RH X.K J1 h1 H1 ∧ RDs X.K J1 H1 ds vs ∧ Post X.K J1 H1 (rD X.K) ((pk.l ρ h1).bind fun ys h2 => F f (pmD .non pm ds ys) h2) Q))) fun us s1 ⟨vs, H1, I1, r, hvl, J1, h1, ds, re1, rh1, rs, q1⟩ => tail I1 r re1 rh1 rs hvl q1) (by rw [plainXs_any pos X.env hp, k3]; rfl) (plain_star hp'.1 _ _)
    refine ⟨ρ, h, J, re, rh, ?_⟩
    dsimp only at q
    cases ev : pl.l ρ h with
    | bad => rw [ev] at q; exact q
    | err _ _ => rw [ev] at q; exact q
    | ok ds h1 =>
      rw [ev, R.bind_ok] at q
      intro J1 H1 vs e1 rh1 rs
      exact ⟨by rw [← rs.length]; exact hlen _ _ _ _ ev, J1, h1, ds, re.ext e1, rh1, rs, Post.ext rh rh1 e1 q⟩

/-! ### built-in functions -/
def bfNm : Bf → Str
  | .len => "len" | .int => "int" | .abs => "abs" | .tuple => "tuple" | .list => "list" | .max2 => "max" | .min2 => "min" | .sum => "sum" | .all => "all" | .any => "any" | .sorted => "sorted" | .repr => "repr"
theorem bf_do {σ : L2.St} {H : Hp} {Q : VK} {f : Hh → List D → Option D} (t : tG X.K (rD X.K) (fun ρ h => (pl.l ρ h).bind fun xs h1 => R.opt (f h1 xs) h1) σ H Q) : tCB (rBf X.K f) (tG X.K (rDs X.K) pl.l) σ H Q := by
  obtain ⟨ρ, h, J, re, rh, q⟩ := t
  refine (Post.step (R1 := rDs X.K) (f := pl.l) re rh q).mono fun xs H1 ⟨J1, h1, ds, e1, re1, rh1, rs, q1⟩ => ?_
  obtain ⟨d, hd, q2⟩ := Post.optX q1
  exact ⟨J1, h1, ds, d, rh1, rs, hd, q2⟩
theorem se_bfB {id : String} {f : Hh → List D → Option D} (hc : CallR X (.builtin id) (rBf X.K f)) (hb : bootBuiltins y = some (.builtin id)) (hn : y ≠ "__name__") (o : Ok c F G X) (hm : y ∈ c.bs) (hg : c.glb y = true) (he : plainXs (e :: es) = true) (hl : SEs X (e :: es) pl) :
    SE X (.Call (.Name y np) (e :: es) [] pos) (.plain fun ρ h => (pl.l ρ h).bind fun xs h1 => R.opt (f h1 xs) h1) := by
  simp only [plainXs, Bool.and_eq_true] at he
  exact SE.plain ((pe_callB hc (glb_ok o hg).1 (o.blt y hm) hb hl.l hn (glb_ok o hg).2 (plain_star he.1 _ _) (plainXs_any _ _ he.2)).imp fun σ H Q t => bf_do t) (fun _ => rfl)
theorem se_bfT {id : String} {f : Hh → List D → Option D} (hc : CallR X (.type id) (rBf X.K f)) (hb : bootBuiltins y = some (.type id)) (hn : y ≠ "__name__") (o : Ok c F G X) (hm : y ∈ c.bs) (hg : c.glb y = true) (he : plainXs (e :: es) = true) (hl : SEs X (e :: es) pl) :
    SE X (.Call (.Name y np) (e :: es) [] pos) (.plain fun ρ h => (pl.l ρ h).bind fun xs h1 => R.opt (f h1 xs) h1) := by
  simp only [plainXs, Bool.and_eq_true] at he
  exact SE.plain ((pe_callTy hc (glb_ok o hg).1 (o.blt y hm) hb hl.l hn (glb_ok o hg).2 (plain_star he.1 _ _) (plainXs_any _ _ he.2)).imp fun σ H Q t => bf_do t) (fun _ => rfl)
def bfOn : Bf → Bool
  | .list => false
  | _ => true
theorem se_bf {f : Bf} (hf : bfOn f = true) (o : Ok c F G X) (hm : bfNm f ∈ c.bs) (hg : c.glb (bfNm f) = true) (he : plainXs (e :: es) = true) (hl : SEs X (e :: es) pl) :
    SE X (.Call (.Name (bfNm f) np) (e :: es) [] pos) (.plain fun ρ h => (pl.l ρ h).bind fun xs h1 => R.opt (opBf f h1 xs) h1) := by
  cases f with
  | len => exact se_bfB bf_len rfl (by decide) o hm hg he hl
  | int => exact se_bfT bf_int rfl (by decide) o hm hg he hl
  | abs => exact se_bfB bf_abs rfl (by decide) o hm hg he hl
  | tuple => exact se_bfT bf_tuple rfl (by decide) o hm hg he hl
  | max2 => exact se_bfB (bf_max o.calm) rfl (by decide) o hm hg he hl
  | min2 => exact se_bfB (bf_min o.calm) rfl (by decide) o hm hg he hl
  | sum => exact se_bfB (bf_sum o.calm) rfl (by decide) o hm hg he hl
  | all => exact se_bfB (bf_all o.calm) rfl (by decide) o hm hg he hl
  | any => exact se_bfB (bf_any o.calm) rfl (by decide) o hm hg he hl
  | repr => exact se_bfB (bf_repr o.units o.guards) rfl (by decide) o hm hg he hl
  | sorted => exact se_bfB bf_sorted rfl (by decide) o hm hg he hl
  | _ => cases hf
/-- list(x): a new list -/
theorem se_listF (o : Ok c F G X) (hm : ("list" : Str) ∈ c.bs) (hg : c.glb "list" = true) (he : plainXs (e :: es) = true) (hl : SEs X (e :: es) pl) :
    PE X (.Call (.Name "list" np) (e :: es) [] pos) (tF X.K fun ρ h => (pl.l ρ h).bind fun xs h1 => R.opt (opBf .list h1 xs) h1) := by
  simp only [plainXs, Bool.and_eq_true] at he
  refine (pe_callTy bf_list (glb_ok o hg).1 (o.blt _ hm) rfl hl.l (by decide) (glb_ok o hg).2 (plain_star he.1 _ _) (plainXs_any _ _ he.2)).imp fun σ H Q ⟨ρ, h, J, re, rh, q⟩ => ?_
  refine ⟨ρ, h, J, re, rh, ?_⟩
  dsimp only at q
  cases ev : pl.l ρ h with
  | bad => rw [ev] at q; exact False.elim q
  | err _ _ => rw [ev] at q; exact False.elim q
  | ok ds h1 =>
    rw [ev, R.bind_ok] at q
    intro J1 H1 vs e1 rh1 rs
    have hb : opBf .list h1 ds = bfList h1 ds := rfl
    rw [hb] at q
    cases ed : bfList h1 ds with
    | none => rw [ed] at q; exact False.elim q
    | some d =>
      rw [ed] at q
      refine ⟨J1, h1, ds, d, rh1, rs, ed, fun p ys ws hd np hz rr => ?_⟩
      subst hd
      refine q (J1.hide p) _ p ws ⟨rfl, e1.pre, fun a o n q => by rw [upd_ne (ne_of_none (e1.keep a o n q) np)]; exact e1.keep a o n q⟩ ?_ (rh1.hide np) upd_same hz ((rr.sub (Sub.hide np)).ext (Ext.laid np)) ?_
      · show p :: J1.z = p :: J.z; rw [e1.z]
      · cases hp : H p with
        | none => rfl
        | some u =>
          exfalso
          by_cases n : p ∈ J.l
          · obtain ⟨m, hm, _⟩ := e1.pre
            obtain ⟨u', h2⟩ := rh1.inl (a := p) (by rw [hm]; exact List.mem_append_left _ n)
            rw [np] at h2; cases h2
          · have := e1.keep p u n hp; rw [np] at this; cases this
theorem se_list (o : Ok c F G X) (hm : ("list" : Str) ∈ c.bs) (hg : c.glb "list" = true) (he : plainXs (e :: es) = true) (hl : SEs X (e :: es) pl) :
    SE X (.Call (.Name "list" np) (e :: es) [] pos) (.plain fun ρ h => (pl.l ρ h).bind fun xs h1 => R.opt (opBf .list h1 xs) h1) := by
  refine SE.plain (tF_val (se_listF o hm hg he hl) fun ρ h d h' e => ?_) (fun _ => rfl)
  cases ev : pl.l ρ h with
  | bad => rw [ev] at e; cases e
  | err _ _ => rw [ev] at e; cases e
  | ok ds h1 =>
    rw [ev, R.bind_ok] at e
    have hb : opBf .list h1 ds = bfList h1 ds := rfl
    rw [hb] at e
    unfold bfList at e
    split at e
    · rename_i x
      cases es : x.seq h1 with
      | none => rw [es] at e; cases e
      | some ys => rw [es] at e; cases e; exact ⟨_, rfl⟩
    · cases e

/-! ### isinstance -/
def tyNm : Ty → Str
  | .int => "int" | .str => "str" | .tup => "tuple" | .lst => "list" | .bl => "bool" | .dct => "dict" | .non => "NoneType"
theorem tyNm_boot (t : Ty) (ht : t ≠ .non) : bootBuiltins (tyNm t) = some (.type t.nm) := by cases t <;> first | rfl | exact absurd rfl ht
theorem se_isi {t : Ty} {ty : Str} {tp : Pos} (ht : t ≠ .non) (hty : ty = tyNm t) (o : Ok c F G X) (hm : ("isinstance" : Str) ∈ c.bs) (hg : c.glb "isinstance" = true) (hm2 : ty ∈ c.bs) (hg2 : c.glb ty = true) (hp : plainX a = true) (ha : SE X a pa) :
    SE X (.Call (.Name "isinstance" np) [a, .Name ty tp] [] pos) (.plain fun ρ h => (pa.v ρ h).bind fun x h1 => if x.isF then .bad else .ok (.bl (opIsi t h1 x)) h1) := by
  subst hty
  refine SE.plain ((pe_callB (isi_ops (t := t)) (glb_ok o hg).1 (o.blt _ hm) rfl (pa_cons ha.v (pa_cons (pe_bltn (v := .ty t.nm) (glb_ok o hg2).1 (o.blt _ hm2) (tyNm_boot t ht) rfl (by cases t <;> decide) (glb_ok o hg2).2) pa_nil) (plain_star hp _ _)) (by decide) (glb_ok o hg).2 (plain_star hp _ _) rfl).imp fun σ H Q ⟨ρ, h, J, re, rh, q⟩ => ?_) (fun _ => rfl)
  refine (Post.step (R1 := rD X.K) (f := pa.v) re rh q).mono fun x H1 ⟨J1, h1, dx, e1, re1, rh1, rx, q1⟩ => ?_
  split at q1
  · exact False.elim q1
  · rename_i hf
    exact ⟨J1, h1, dx, x, rh1, by simpa using hf, rx, rfl, q1 J1 H1 _ Ext.refl rh1 (.bl _)⟩

/-! ### methods -/
def mtNm : Mt → Str
  | .append => "append" | .pop => "pop" | .popAt => "pop" | .index => "index" | .count => "count"
theorem isL_ty {K : PySem.W.Frag} {J : Jn} {H : Hp} {h : Hh} {d : D} {v : V} (rh : RH K J h H) (r : RD K J H d v) (e : d.isL h = true) : tyV K "list" v H := by
  cases r with
  | lst n m q z rr => exact .inl ⟨rfl, _, .inl (.inl q)⟩
  | fz n m q z rr => exact .inl ⟨rfl, _, .inl (.inr ⟨_, q⟩)⟩
  | kfz k z rr => exact .inl ⟨rfl, _, .inr k⟩
  | ref q =>
    obtain ⟨o, u, h1, h2, h3⟩ := rh.at q
    simp only [D.isL, h1] at e
    cases h3 with
    | lst z rr => exact .inl ⟨rfl, _, .inl (.inl h2)⟩
    | dct z rr => cases e
  | _ => cases e
theorem mth_do {r : V → List V → Hp → VK → Prop} {m : Mt} {ol : PL} {σ : L2.St} {H : Hp} {Q : VK} (hr : ∀ x xs H Q, rMt X.K m x xs H Q → r x xs H Q)
    (t : tG X.K (rD X.K) (fun ρ h => (pa.v ρ h).bind fun x h1 => if x.isL h1 then (ol.l ρ h1).bind fun xs h2 => mthOp m x xs h2 else .bad) σ H Q) : tBM X.K "list" r (tG X.K (rD X.K) pa.v) (tG X.K (rDs X.K) ol.l) σ H Q := by
  obtain ⟨ρ, h, J, re, rh, q⟩ := t
  refine (Post.step (R1 := rD X.K) (f := pa.v) re rh q).mono fun x H1 ⟨J1, h1, dx, e1, re1, rh1, rx, q1⟩ => ?_
  cases hx : dx.isL h1 with
  | false => rw [hx] at q1; exact False.elim q1
  | true =>
    rw [hx] at q1
    simp only [if_true] at q1
    refine ⟨isL_ty rh1 rx hx, ?_⟩
    refine (Post.step (R1 := rDs X.K) (f := ol.l) re1 rh1 q1).mono fun xs H2 ⟨J2, h2, ds, e2, re2, rh2, rs, q2⟩ => hr _ _ _ _ ?_
    cases ev : mthOp m dx ds h2 with
    | bad => rw [ev] at q2; exact False.elim q2
    | err _ _ => rw [ev] at q2; exact False.elim q2
    | ok d h3 => rw [ev] at q2; exact ⟨J2, h2, dx, ds, d, h3, rh2, rx.ext e2, rs, ev, q2⟩
def mtOn : Mt → Bool
  | .append => true | .pop => true | .popAt => true
  | _ => false
def mtIx : Mt → Bool
  | .index => true
  | _ => false
def baseX : Expr → Bool
  | .Call _ [] _ _ => false
  | _ => true
theorem base_of {a : Expr} {m : Str} {env : PySem.Env} {w : Sem Value} (h : baseX a = true) : attributeBase a m env w = w := by
  cases a with
  | Call f as ks p =>
    cases as with
    | nil => cases h
    | cons a as => cases f <;> rfl
  | _ => rfl
theorem few_of (cpos : Pos) (env : PySem.Env) {es : List Expr} (h : plainXs es = true) (hl : es.length < 30) : ((backTo cpos (starEach es env)).all (fun x => !x.1) && (backToKw cpos (keywordEach [] env)).all (fun x => x.1.isSome)
      && decide (es.length + ([] : List Keyword).length + (if ([] : List Keyword).isEmpty then 0 else 1) < 30)) = true := by
  have h1 : (backTo cpos (starEach es env)).all (fun x => !x.1) = true := by
    have := plainXs_any cpos env h
    rw [List.any_eq_false] at this
    rw [List.all_eq_true]
    intro x hx
    have := this x hx
    simpa using this
  rw [h1]
  simp only [Bool.true_and, Bool.and_eq_true, decide_eq_true_eq]
  exact ⟨rfl, by simpa using hl⟩
theorem se_mth {m : Mt} {es : List Expr} (hm : mtOn m = true) (hx : baseX a = true) (hline : (apos.endLine == cpos.line) = true) (hp : plainXs es = true) (hlen : es.length < 30) (h0 : es = [] → pl.l = fun _ h => .ok [] h) (ha : SE X a pa) (hl : SEs X es pl) :
    SE X (.Call (.Attribute a (mtNm m) apos) es [] cpos) (.plain fun ρ h => (pa.v ρ h).bind fun x h1 => if x.isL h1 then (pl.l ρ h1).bind fun xs h2 => mthOp m x xs h2 else .bad) := by
  have gen : ∀ {id : String} {r : V → List V → Hp → VK → Prop}, Slot "list" (mtNm m) id → typeOf (.builtin id) = pure (.type "method_descriptor") → MtR X id r → (∀ x xs H Q, rMt X.K m x xs H Q → r x xs H Q) →
      SE X (.Call (.Attribute a (mtNm m) apos) es [] cpos) (.plain fun ρ h => (pa.v ρ h).bind fun x h1 => if x.isL h1 then (pl.l ρ h1).bind fun xs h2 => mthOp m x xs h2 else .bad) := by
    intro id r slot hty hmt hr
    refine SE.plain ?_ (fun _ => rfl)
    cases es with
    | nil =>
      refine (pe_bm0 PySem.F.plainAttrs_list slot hty hmt ha.v (base_of hx) hline).imp fun σ H Q t => ?_
      refine (mth_do hr t).mono fun x H1 ⟨ty, ρ, h, J, re, rh, q⟩ => ⟨ty, ?_⟩
      rw [h0 rfl] at q
      exact q J H1 [] Ext.refl rh .nil
    | cons e es =>
      have hp' := hp
      simp only [plainXs, Bool.and_eq_true] at hp'
      exact (pe_bm PySem.F.plainAttrs_list slot hty hmt ha.v hl.l (base_of hx) (few_of _ _ hp hlen) hline (plain_star hp'.1 _ _) (plainXs_any _ _ hp'.2)).imp fun σ H Q t => mth_do hr t
  cases m with
  | append => exact gen PySem.F.slot_list_append rfl mt_appendD fun _ _ _ _ z => z
  | pop => exact gen PySem.F.slot_list_pop rfl mt_popD fun _ _ _ _ z => .inl z
  | popAt => exact gen PySem.F.slot_list_pop rfl mt_popD fun _ _ _ _ z => .inr z
  | _ => cases hm

/-! ### a written tuple whose object is known; t.index(n) -/
theorem se_ftup {es : List Expr} {pl : PL} {k : Nat} (hl : SEs X es pl) : SE X (.Tuple es k pos) (.plain fun ρ h => (pl.l ρ h).bind fun xs h1 => if sizeOk xs.length then .ok (.ftup xs) h1 else .bad) := by
  refine SE.plain ((pe_ftup hl.l).imp fun σ H Q ⟨ρ, h, J, re, rh, q⟩ => ?_) (fun _ => rfl)
  refine (Post.step (R1 := rDs X.K) (f := pl.l) re rh q).mono fun xs H1 ⟨J1, h1, ds, e1, re1, rh1, rs, q1⟩ => ?_
  split at q1
  · rename_i hz
    have hz' : xs.length ≤ sizeLine := by rw [← rs.length]; exact size_of hz
    exact ⟨hz', fun p o np hc hd => q1 _ _ _ (Ext.laid np) (rh1.laid np) (.ft (rh1.notin np) (rh1.notz np) upd_same hc hd hz' (rs.ext (Ext.laid np)))⟩
  · exact False.elim q1
theorem tint_rel {K : PySem.W.Frag} {J : Jn} {H : Hp} : ∀ {ds : List D} {vs : List V} {ns : List Int}, RDs K J H ds vs → D.ints ds = some ns → vs = ns.map V.int
  | [], _, _, .nil, e => by cases e; rfl
  | d :: ds, _, ns, .cons r t, e => by
    cases d with
    | int i =>
      simp only [D.ints, Option.map_eq_some_iff] at e
      obtain ⟨ms, e1, rfl⟩ := e
      cases r
      rw [tint_rel t e1]; rfl
    | _ => cases e
theorem stepAt {K : PySem.W.Frag} {J : Jn} {H : Hp} {h h1 : Hh} {ρ : PV.Env} {σ : L2.St} {f : PV.Env → Hh → R D} {g : D → Hh → R D} {Q : VK} {dx : D} (re : RE K J H ρ σ) (rh : RH K J h H) (ev : f ρ h = .ok dx h1) (p : Post K J H (rD K) ((f ρ h).bind g) Q) :
    tG K (rD K) f σ H (fun b H1 => ∃ J1, Ext J H J1 H1 ∧ RE K J1 H1 ρ σ ∧ RH K J1 h1 H1 ∧ rD K J1 H1 dx b ∧ Post K J1 H1 (rD K) (g dx h1) Q) := by
  refine ⟨ρ, h, J, re, rh, ?_⟩
  rw [ev] at p ⊢
  exact fun J1 H1 b e rh1 rl => ⟨J1, e, re.ext e, rh1, rl, Post.ext rh rh1 e p⟩
theorem idx_inv {ds xs : List D} {d : D} (e : idxD ds xs = some d) : ∃ z ns, xs = [.int z] ∧ D.ints ds = some ns ∧ z ∈ ns ∧ d = .int (ns.idxOf z : Nat) := by
  unfold idxD at e
  split at e
  · rename_i z
    simp only [Option.bind_eq_some_iff] at e
    obtain ⟨ns, h1, h2⟩ := e
    split at h2
    · rename_i hz; cases h2; exact ⟨z, ns, rfl, h1, hz, rfl⟩
    · cases h2
  · cases e
theorem se_tidx {es : List Expr} {e0 : Expr} (hx : baseX a = true) (hline : (apos.endLine == cpos.line) = true) (hp : plainXs (e0 :: es) = true) (hlen : (e0 :: es).length < 30) (ha : SE X a pa) (hl : SEs X (e0 :: es) pl) :
    SE X (.Call (.Attribute a "index" apos) (e0 :: es) [] cpos) (mthI pa pl) := by
  have hp' := hp
  simp only [plainXs, Bool.and_eq_true] at hp'
  refine SE.plain ⟨fun pins s σ H Q I ⟨ρ, h, J, re, rh, q⟩ => ?_⟩ (fun _ => rfl)
  dsimp only at q
  have q0 := q
  cases ev : pa.v ρ h with
  | bad => rw [ev] at q; exact False.elim q
  | err _ _ => rw [ev] at q; exact False.elim q
  | ok dx h1 =>
    cases hi : dx.ixs with
    | none => rw [ev] at q; simp only [R.bind_ok, hi] at q; exact False.elim q
    | some ds =>
      have st := stepAt re rh ev q0
      have rest : ∀ (S : PySem.W.Frag → Hp → Addr → List V → Prop) (J1 : Jn) (H1 : Hp) (b : V), RE X.K J1 H1 ρ σ → RH X.K J1 h1 H1 → (∀ J2 H2, Ext J1 H1 J2 H2 → ∃ p vs, b = .ref p ∧ S X.K H2 p vs ∧ RDs X.K J2 H2 ds vs) →
          Post X.K J1 H1 (rD X.K) (match dx.ixs with | some ds => (pl.l ρ h1).bind fun xs h2 => R.opt (idxD ds xs) h2 | none => .bad) Q → tG X.K (rDs X.K) pl.l σ H1 (fun xs H2 => rIdx S X.K b xs H2 Q) := by
        intro S J1 H1 b re1 rh1 hS q1
        simp only [hi] at q1
        refine (Post.step (R1 := rDs X.K) (f := pl.l) re1 rh1 q1).mono fun xs H2 ⟨J2, h2, es2, e2, re2, rh2, rs, q2⟩ => ?_
        obtain ⟨d, hd, q3⟩ := Post.optX q2
        obtain ⟨z, ns, rfl, hn, hz, rfl⟩ := idx_inv hd
        obtain ⟨p, vs, rfl, hs, rr⟩ := hS J2 H2 e2
        rw [tint_rel rr hn] at hs
        obtain ⟨w, rfl, r1⟩ := one_inv rs
        cases r1
        exact ⟨p, ns, z, rfl, rfl, hs, hz, q3 _ _ _ Ext.refl rh2 (.int _)⟩
      have lists : (∀ J1 H1 b, rD X.K J1 H1 dx b → ∃ p vs, b = .ref p ∧ (∀ J2 H2, Ext J1 H1 J2 H2 → SqL X.K H2 p vs ∧ RDs X.K J2 H2 ds vs)) → wpAny (model X.prog X.w) X.A (eval (.Call (.Attribute a "index" apos) (e0 :: es) [] cpos) X.env) (EP X pins σ Q) X.xe s := by
        intro hS
        refine (pe_bm PySem.F.plainAttrs_list PySem.F.slot_list_index rfl mt_lstIdx ha.v hl.l (base_of hx) (few_of _ _ hp hlen) hline (plain_star hp'.1 _ _) (plainXs_any _ _ hp'.2)).run pins s σ H Q I ?_
        obtain ⟨ρ', h', J', re', rh', p'⟩ := st
        refine ⟨ρ', h', J', re', rh', Post.mono p' fun b H1 ⟨J1, e1, re1, rh1, rx, q1⟩ => ?_⟩
        obtain ⟨p, vs, rfl, hh⟩ := hS J1 H1 b rx
        exact ⟨.inl ⟨rfl, _, (hh J1 H1 Ext.refl).1⟩, rest SqL J1 H1 _ re1 rh1 (fun J2 H2 e2 => ⟨p, vs, rfl, hh J2 H2 e2⟩) q1⟩
      cases dx with
      | lst xs =>
        cases hi
        refine lists fun J1 H1 b r => ?_
        cases r with
        | lst n m q z rr => exact ⟨_, _, rfl, fun J2 H2 e2 => ⟨.inl (.inl (e2.keep _ _ n q)), rr.ext e2⟩⟩
      | fz xs =>
        cases hi
        refine lists fun J1 H1 b r => ?_
        cases r with
        | fz n m q z rr => exact ⟨_, _, rfl, fun J2 H2 e2 => ⟨.inl (.inr ⟨_, e2.keep _ _ n q⟩), rr.ext e2⟩⟩
        | kfz k z rr => exact ⟨_, _, rfl, fun J2 H2 e2 => ⟨.inr k, rr.ext e2⟩⟩
      | ftup xs =>
        cases hi
        refine (pe_fm PySem.F.slot_tuple_index rfl mt_tupIdx ha.v hl.l (base_of hx) (few_of _ _ hp hlen) hline (plain_star hp'.1 _ _) (plainXs_any _ _ hp'.2)).run pins s σ H Q I ?_
        obtain ⟨ρ', h', J', re', rh', p'⟩ := st
        refine ⟨ρ', h', J', re', rh', Post.mono p' fun b H1 ⟨J1, e1, re1, rh1, rx, q1⟩ => ?_⟩
        cases rx with
        | ft n m q c d z rr => exact ⟨⟨_, _, _, rfl, q, c, d⟩, rest SqT J1 H1 _ re1 rh1 (fun J2 H2 e2 => ⟨_, _, rfl, .inl (.inr ⟨_, e2.keep _ _ n q⟩), rr.ext e2⟩) q1⟩
      | _ => cases hi

/-! ### tuple(enumerate(a tuple)) -/
theorem se_tenum {ep : Pos} {cp : Pos} (o : Ok c F G X) (hm : ("tuple" : Str) ∈ c.bs) (hg : c.glb "tuple" = true) (hm2 : ("enumerate" : Str) ∈ c.bs) (hg2 : c.glb "enumerate" = true) (hp : plainX a = true) (ha : SE X a pa) :
    SE X (.Call (.Name "tuple" np) [.Call (.Name "enumerate" ep) [a] [] cp] [] pos) (.plain fun ρ h => (pa.v ρ h).bind fun x h1 => R.opt (tenumOp x) h1) := by
  refine SE.plain ⟨fun pins s σ H Q I ⟨ρ, h, J, re, rh, q⟩ => ?_⟩ (fun _ => rfl)
  refine wpAny_Call_Name_kw (ld_blt I (glb_ok o hg).1 (o.blt _ hm) rfl (PyProof.Rows.callWith_type1 ?_ rfl rfl) (by decide) (glb_ok o hg).2)
  show wpAny _ _ (spliced [(false, eval (.Call (.Name "enumerate" ep) [a] [] cp) X.env)]) _ _ s
  refine Calls.spliced_cons ?_
  refine wpAny_Call_Name_kw (ld_blt I (glb_ok o hg2).1 (o.blt _ hm2) rfl (PyProof.Rows.callWith_type1 ?_ (plain_star hp _ _) rfl) (by decide) (glb_ok o hg2).2)
  have step : tCons (tG X.K (rD X.K) pa.v) tNil σ H (fun xs H1 => ∃ y, xs = [y] ∧ ∃ J1 h1 dx, Ext J H J1 H1 ∧ RE X.K J1 H1 ρ σ ∧ RH X.K J1 h1 H1 ∧ RD X.K J1 H1 dx y ∧ Post X.K J1 H1 (rD X.K) (R.opt (tenumOp dx) h1) Q) :=
    (Post.step (R1 := rD X.K) (f := pa.v) re rh q).mono fun b H1 z => ⟨b, rfl, z⟩
  refine thn ((pa_cons ha.v pa_nil (plain_star hp _ _)).run cp pins s σ H _ I step) fun us s1 ⟨xs, H1, I1, r1, y, ex, J1, h1, dx, e1, re1, rh1, rx, q1⟩ => ?_
  subst ex
  obtain ⟨u, rfl, ru⟩ : ∃ u, us = [u] ∧ L2.RelV y u := by
    cases r1 with | cons p t => cases t; exact ⟨_, rfl, p⟩
  cases ht : tenumOp dx with
  | none => rw [ht] at q1; exact False.elim q1
  | some d =>
    rw [ht] at q1
    unfold tenumOp at ht
    split at ht
    · rename_i ds
      split at ht
      · cases ht
        obtain ⟨a0, vs0, ey, _⟩ := rx.tup_inv
        subst ey
        cases (show u = Value.ref a0 from ru)
        refine thn (tenum_run o.calm I1 rh1 rx fun J' H' v e2 rh2 rv => q1 J' H' v e2 rh2 rv) fun ev s2 hv => Calls.spliced_nil hv
      · cases ht
    · cases ht
/-! ### sorted(set(a list of ints)) -/
theorem sset_some {h : Hh} {x d : D} (e : ssetOp h x = some d) : ∃ ds ns, x.res h = .lst ds ∧ D.ints ds = some ns ∧ ns.length < 64 ∧ d = .lst ((srtD ns).map .int) := by
  unfold ssetOp at e
  simp only [Option.bind_eq_some_iff] at e
  obtain ⟨ns, ⟨ds, e1, e2⟩, e3⟩ := e
  split at e3
  · rename_i hz; cases e3; exact ⟨ds, ns, lstOf_inv e1, e2, hz, rfl⟩
  · cases e3
theorem se_sset {ep : Pos} {cp : Pos} (o : Ok c F G X) (hm : ("sorted" : Str) ∈ c.bs) (hg : c.glb "sorted" = true) (hm2 : ("set" : Str) ∈ c.bs) (hg2 : c.glb "set" = true) (hp : plainX a = true) (ha : SE X a pa) :
    SE X (.Call (.Name "sorted" np) [.Call (.Name "set" ep) [a] [] cp] [] pos) (.plain fun ρ h => (pa.v ρ h).bind fun x h1 => R.opt (ssetOp h1 x) h1) := by
  have inner := pe_callTy (p := ep) (pos := cp) (PVX.cr_setL (X := X) o.calm) (glb_ok o hg2).1 (o.blt _ hm2) rfl (pa_cons ha.v pa_nil (plain_star hp _ _)) (by decide) (glb_ok o hg2).2 (plain_star hp _ _) rfl
  refine SE.plain ((pe_callB (p := np) (pos := pos) (cr_sortedSet (X := X) o.calm) (glb_ok o hg).1 (o.blt _ hm) rfl (pa_cons inner pa_nil rfl) (by decide) (glb_ok o hg).2 rfl rfl).imp fun σ H Q ⟨ρ, h, J, re, rh, q⟩ => ?_) (fun _ => rfl)
  refine (Post.step (R1 := rD X.K) (f := pa.v) re rh q).mono fun b H1 ⟨J1, h1, dx, e1, re1, rh1, rx, q1⟩ => ?_
  obtain ⟨d, hd, q2⟩ := Post.optX q1
  obtain ⟨ds, ns, r1, r2, h64, rfl⟩ := sset_some hd
  obtain ⟨p, ws, rfl, hq, z, rr⟩ := res_inv rh1 r1 rx
  obtain rfl := ints_rel rr r2
  refine ⟨p, ns, rfl, hq, h64, fun p2 k np2 hk => ⟨p2, _, k, rfl, upd_same, by omega, fun ms p3 pw mem len np3 => ?_⟩⟩
  have em : ms = srtD ns := srtD_eq pw fun z => by rw [mem z]; exact decide_eq_true_iff
  subst em
  have rh2 := rh1.laid (o := SetO X.w p2 (fun j => decide (j ∈ ns)) k) np2
  refine q2 _ _ _ ((Ext.laid np2).trans rh1 rh2 (Ext.laid np3)) (rh2.laid np3) (RD.newLst rh2 np3 (rds_ints _) ?_)
  rw [List.length_map]
  rw [sizeLine_eq]; omega
end
end
end PV
end

section
set_option maxRecDepth 100000
namespace PV
open L2 PySem PySem.Spec PyProof.Rows

/-! ### a text read as E -/
def relabelS (scope sc : Scope) : Scope :=
  { scope with names := scope.names.map fun (n, k) =>
      if (k == .free && sc.kind == .function && sc.names.lookup n == some .cell) then (n, .cell) else (n, k) }
def Cs.blk (c : Cs) (scope : Scope) : Cs := { c with sc := relabelS scope c.sc, fn := fun x => scope.names.lookup x == some .cell }
def Cs.own (c : Cs) (t : Tg) : List (Str × Nat) := t.slots.map fun i => (c.N.getD i "", i)
def Cs.blt (c : Cs) (x : Str) : Bool := decide (x ∈ c.bs) && c.glb x
/-- a name that is set -/
def mV (c : Cs) (i : Nat) (x : Expr) : Bool := match asName x with
  | some y => c.loc i y
  | none => false
def mVs (c : Cs) : List Nat → List Expr → Bool
  | [], [] => true
  | i :: is, x :: xs => mV c i x && mVs c is xs
  | _, _ => false
def mT (c : Cs) : Tg → Expr → Bool
  | .v i, x => mV c i x
  | .tu is, x => match asTup x with
    | some xs => mVs c is xs
    | none => false
mutual
def mE (c : Cs) : E → Expr → Bool
  | .var i, x => match asName x with | some y => c.vis i y | none => false
  | .con d, x => match asCon x with | some k => conM d k | none => false
  | .glo i, x => match asName x with | some y => decide (c.gn[i]? = some y) && c.glb y | none => false
  | .miss, _ => false
  | .tup es, x => match asTup x with | some xs => mEs c es xs | none => false
  | .ftup es, x => match asTup x with | some xs => mEs c es xs | none => false
  | .lst es, x => match asLst x with | some xs => mEs c es xs | none => false
  | .new e, x => mF c e x
  | .dic0, x => asDic0 x
  | .bin o a b, x => match asBin x with | some (y, p, z) => bopM o p && mE c a y && mE c b z | none => false
  | .neg a, x => match asUn x with | some (.USub, y) => mE c a y | _ => false
  | .cmp o a b, x => match asCmp1 x with | some (y, p, z) => copM o p && plainX z && mE c a y && mE c b z | none => false
  | .chain o o' a b d, x => match asCmp2 x with | some (y, p, p', z, w) => copM o p && copM o' p' && plainX w && mE c a y && mE c b z && mE c d w | none => false
  | .and a r, x => match asBool x with | some (.And, y, ys) => mE c a y && mEs c r ys && !ys.isEmpty | _ => false
  | .or a r, x => match asBool x with | some (.Or, y, ys) => mE c a y && mEs c r ys && !ys.isEmpty | _ => false
  | .not a, x => match asUn x with | some (.Not, y) => mE c a y | _ => false
  | .ite t a b, x => match asIf x with | some (w, y, z) => mE c t w && mE c a y && mE c b z | none => false
  | .idx a i, x => match asSub x with | some (y, z) => plainX z && mE c a y && mE c i z | none => false
  | .slc a lo hi, x => match asSub x with
    | some (y, z) => match asSlc z with
      | some (l, u) => mE c a y && (match l with | none => lo.isMiss | some l => !lo.isMiss && mE c lo l) && (match u with | none => hi.isMiss | some u => !hi.isMiss && mE c hi u)
      | none => false
    | none => false
  | .call f es, x => match asCall x with
    | some (y, xs) => match c.T[f]? with
      | some fn => decide (fn.name = y) && decide (fn.P.length = xs.length) && c.glb y && plainXs xs && mEs c es xs
      | none => false
    | none => false
  | .callK f es kes pm, x => match asCallK x with
    | some (y, xs, kws) => match c.T[f]? with
      | some fn => decide (fn.name = y) && decide ((xs.length, kwNms kws, pm) ∈ fn.kw) && kwAll kws && decide ((kwNms kws).length = kws.length) && c.glb y && plainXs xs && mEs c es xs && mEs c kes (kws.map (·.value))
      | none => false
    | none => false
  | .bf f es, x => match asCall x with
    | some (y, xs) => decide (y = bfNm f) && c.blt y && !xs.isEmpty && plainXs xs && mEs c es xs && (bfOn f || match f with | .list => true | _ => false)
    | none => false
  | .isi a t, x => match asIsi x with
    | some (f, y, ty) => decide (f = "isinstance") && (match t with | .non => false | _ => true) && decide (ty = tyNm t) && c.blt f && c.blt ty && plainX y && mE c a y
    | none => false
  | .mth m o es, x => match asMth x with
    | some (y, nm, xs) => decide (nm = mtNm m) && (mtOn m || (mtIx m && !xs.isEmpty)) && baseX y && plainXs xs && decide (xs.length < 30) && mE c o y && mEs c es xs
    | none => false
  | .lc t it d e, x => match asLc x with
    | some (elt, tg, iter, ifs, scope) => blkC c.N c.sc scope (c.own t) && mI c it tg iter && plainX iter && mT (c.blk scope) t tg && mE (c.blk scope) e elt && (match ifs with
      | [] => d.isMiss
      | [i] => mE (c.blk scope) d i
      | _ => false)
    | none => false
  | .tenum a, x => match asTenum x with
    | some (f, g, y) => decide (f = "tuple") && decide (g = "enumerate") && c.blt f && c.blt g && plainX y && mE c a y
    | none => false
  | .sset a, x => match asTenum x with
    | some (f, g, y) => decide (f = "sorted") && decide (g = "set") && c.blt f && c.blt g && plainX y && mE c a y
    | none => false
def mF (c : Cs) : E → Expr → Bool
  | .lst es, x => match asLst x with | some xs => mEs c es xs | none => false
  | .bf .list es, x => match asCall x with
    | some (y, xs) => decide (y = "list") && c.blt y && !xs.isEmpty && plainXs xs && mEs c es xs
    | none => false
  | .lc t it d e, x => match asLc x with
    | some (elt, tg, iter, ifs, scope) => blkC c.N c.sc scope (c.own t) && mI c it tg iter && plainX iter && mT (c.blk scope) t tg && mE (c.blk scope) e elt && (match ifs with
      | [] => d.isMiss
      | [i] => mE (c.blk scope) d i
      | _ => false)
    | none => false
  | _, _ => false
def mEs (c : Cs) : Es → List Expr → Bool
  | .nil, [] => true
  | .cons e es, x :: xs => plainX x && mE c e x && mEs c es xs
  | _, _ => false
def mI (c : Cs) : I → Expr → Expr → Bool
  | .ev e, _, x => mE c e x
  | .rng n, _, x => match asCall x with
    | some (f, [y]) => decide (f = "range") && c.blt f && plainX y && mE c n y
    | _ => false
  | .rng2 a b, _, x => match asCall x with
    | some (f, [y, z]) => decide (f = "range") && c.blt f && plainX y && plainX z && mE c a y && mE c b z
    | _ => false
  | .zip a b, tg, x => match asCall x with
    | some (f, [y, z]) => decide (f = "zip") && c.blt f && plainX y && plainX z && mE c a y && mE c b z && (asTup tg).isSome
    | _ => false
  | .enum _, _, _ => false
end
end PV
end

section
set_option maxRecDepth 100000
namespace PV
open L2 PySem PySem.Spec PyProof.Rows
section
variable {c : Cs} {F : Fns} {G : List D} {X : Cx}
theorem Ok.blk (o : Ok c F G X) {s : Shared} {H : Hp} {scope : Scope} {cl : List (Str × Addr)} {C : Addr} {fp : List Addr} : Ok (c.blk scope) F G (X.blk s H scope (compEnvC scope cl C X.env) fp) where
  hN := o.hN
  nd := o.nd
  sc := by
    show relabel scope X.env = relabelS scope c.sc
    unfold relabel relabelS PySem.Env.kindOf
    rw [o.sc]
  fn := rfl
  calm := o.calm
  call := ⟨o.call.ok⟩
  blt := o.blt
  glo := o.glo
  exc := o.exc
  exm := o.exm
theorem blt_ok {y : Str} (h : c.blt y = true) : y ∈ c.bs ∧ c.glb y = true := by
  simp only [Cs.blt, Bool.and_eq_true, decide_eq_true_eq] at h; exact h
theorem own_snd (t : Tg) : (c.own t).map (·.2) = t.slots := by simp [Cs.own, Function.comp_def]
theorem sv_ok {i : Nat} {x : Expr} (o : Ok c F G X) (h : mV c i x = true) : ∃ y p, x = .Name y p ∧ X.N[i]? = some y ∧ L2.Loc X.env.scope y ∧ (X.fn y = true ∨ X.env.scope.names.lookup y = some .local) := by
  unfold mV at h
  split at h
  · rename_i y hy
    obtain ⟨p, rfl⟩ := asName_eq hy
    obtain ⟨h1, h2, h3⟩ := loc_ok o h
    exact ⟨y, p, rfl, h1, h2, h3⟩
  · cases h
theorem svs_ok (o : Ok c F G X) : ∀ {is : List Nat} {xs : List Expr}, mVs c is xs = true → STs X xs is
  | [], [], _ => sts_nil
  | [], _ :: _, h => by cases h
  | _ :: _, [], h => by cases h
  | i :: is, x :: xs, h => by
    simp only [mVs, Bool.and_eq_true] at h
    obtain ⟨y, p, rfl, h1, h2, h3⟩ := sv_ok o h.1
    exact sts_cons o.nd h1 h2 h3 (svs_ok o h.2)
theorem st_ok (o : Ok c F G X) {t : Tg} {x : Expr} (h : mT c t x = true) : ST X x t t.slots := by
  cases t with
  | v i =>
    obtain ⟨y, p, rfl, h1, h2, h3⟩ := sv_ok o (show mV c i x = true from h)
    exact st_v o.nd h1 h2 h3
  | tu is =>
    simp only [mT] at h
    split at h
    · rename_i xs hx
      obtain ⟨k, p, rfl⟩ := asTup_eq hx
      exact st_tu o.calm (svs_ok o h)
    · cases h
def Es.len : Es → Nat
  | .nil => 0
  | .cons _ es => es.len + 1
theorem es_len : ∀ (es : Es) (ρ : Env) (h : Hh) (ds : List D) (h' : Hh), (evEs F G es).l ρ h = .ok ds h' → ds.length = es.len
  | .nil, ρ, h, ds, h', e => by cases e; rfl
  | .cons a es, ρ, h, ds, h', e => by
    have e : ((evE F G a).v ρ h).bind (fun x h1 => ((evEs F G es).l ρ h1).bind fun xs h2 => .ok (x :: xs) h2) = .ok ds h' := e
    cases e1 : (evE F G a).v ρ h with
    | ok x h1 =>
      rw [e1, R.bind_ok] at e
      cases e2 : (evEs F G es).l ρ h1 with
      | ok xs h2 =>
        rw [e2, R.bind_ok] at e
        cases e
        show xs.length + 1 = es.len + 1
        rw [es_len es _ _ _ _ e2]
      | bad => rw [e2] at e; cases e
      | err _ _ => rw [e2] at e; cases e
    | bad => rw [e1] at e; cases e
    | err _ _ => rw [e1] at e; cases e
theorem mEs_len : ∀ {es : Es} {xs : List Expr}, mEs c es xs = true → es.len = xs.length
  | .nil, [], _ => rfl
  | .nil, _ :: _, h => by cases h
  | .cons _ _, [], h => by cases h
  | .cons e es, x :: xs, h => by
    simp only [mEs, Bool.and_eq_true] at h
    show es.len + 1 = xs.length + 1
    rw [mEs_len h.2]
theorem mEs_nil {es : Es} {xs : List Expr} (h : mEs c es xs = true) : xs = [] → (evEs F G es).l = fun _ h => .ok [] h := by
  rintro rfl
  cases es with
  | nil => rfl
  | cons _ _ => cases h
/-- a list made anew -/
def SF (X : Cx) (x : Expr) (v : Env → Hh → R D) : Prop := PE X x (tF X.K v) ∧ ∀ whole, isTrue x X.env whole = (do let v ← whole; standAt x.pos; holding [v] (truthy v))
mutual
theorem sE : ∀ (t : E) {c : Cs} {X : Cx} (o : Ok c F G X) (x : Expr), mE c t x = true → SE X x (evE F G t)
  | .var i, c, X, o, x, h => by
    simp only [mE] at h
    split at h
    · rename_i y hy
      obtain ⟨p, rfl⟩ := asName_eq hy
      exact se_var o h
    · cases h
  | .con d, c, X, o, x, h => by
    simp only [mE] at h
    split at h
    · rename_i y hy
      obtain ⟨k, p, rfl⟩ := asCon_eq hy
      exact se_con h
    · cases h
  | .glo i, c, X, o, x, h => by
    simp only [mE] at h
    split at h
    · rename_i y hy
      obtain ⟨p, rfl⟩ := asName_eq hy
      (simp only [Bool.and_eq_true, decide_eq_true_eq] at h)
      exact se_glo o h.1 h.2
    · cases h
  | .miss, c, X, o, x, h => by cases h
  | .tup es, c, X, o, x, h => by
    simp only [mE] at h
    split at h
    · rename_i y hy
      obtain ⟨k, p, rfl⟩ := asTup_eq hy
      exact se_tup (sEs es o _ h)
    · cases h
  | .ftup es, c, X, o, x, h => by
    simp only [mE] at h
    split at h
    · rename_i y hy
      obtain ⟨k, p, rfl⟩ := asTup_eq hy
      exact se_ftup (sEs es o _ h)
    · cases h
  | .lst es, c, X, o, x, h => by
    simp only [mE] at h
    split at h
    · rename_i y hy
      obtain ⟨p, rfl⟩ := asLst_eq hy
      exact se_lst (sEs es o _ h)
    · cases h
  | .new e, c, X, o, x, h => se_new (sF e o x h).1 (sF e o x h).2
  | .dic0, c, X, o, x, h => by
    obtain ⟨p, rfl⟩ := asDic0_eq h
    exact se_dic0
  | .bin op a b, c, X, o, x, h => by
    simp only [mE] at h
    split at h
    · rename_i y p z hy
      obtain ⟨q, rfl⟩ := asBin_eq hy
      (simp only [Bool.and_eq_true] at h)
      exact se_bin' (bopM_ok h.1.1) (sE a o _ h.1.2) (sE b o _ h.2)
    · cases h
  | .neg a, c, X, o, x, h => by
    simp only [mE] at h
    split at h
    · rename_i y hy
      obtain ⟨q, rfl⟩ := asUn_eq hy
      exact se_neg (sE a o _ h)
    · cases h
  | .cmp op a b, c, X, o, x, h => by
    simp only [mE] at h
    split at h
    · rename_i y p z hy
      obtain ⟨q, rfl⟩ := asCmp1_eq hy
      (simp only [Bool.and_eq_true] at h)
      exact se_cmp' (copM_ok o.units h.1.1.1) h.1.1.2 (sE a o _ h.1.2) (sE b o _ h.2)
    · cases h
  | .chain op op' a b d, c, X, o, x, h => by
    simp only [mE] at h
    split at h
    · rename_i y p p' z w hy
      obtain ⟨q, rfl⟩ := asCmp2_eq hy
      (simp only [Bool.and_eq_true] at h)
      exact se_chain (copM_ok o.units h.1.1.1.1.1) (copM_ok o.units h.1.1.1.1.2) h.1.1.1.2 (sE a o _ h.1.1.2) (sE b o _ h.1.2) (sE d o _ h.2)
    · cases h
  | .and a r, c, X, o, x, h => by
    simp only [mE] at h
    split at h
    · rename_i y ys hy
      obtain ⟨q, rfl⟩ := asBool_eq hy
      (simp only [Bool.and_eq_true, Bool.not_eq_true'] at h)
      exact se_and (sE a o _ h.1.1) (sEs r o _ h.1.2) h.2
    · cases h
  | .or a r, c, X, o, x, h => by
    simp only [mE] at h
    split at h
    · rename_i y ys hy
      obtain ⟨q, rfl⟩ := asBool_eq hy
      (simp only [Bool.and_eq_true, Bool.not_eq_true'] at h)
      exact se_or (sE a o _ h.1.1) (sEs r o _ h.1.2) h.2
    · cases h
  | .not a, c, X, o, x, h => by
    simp only [mE] at h
    split at h
    · rename_i y hy
      obtain ⟨q, rfl⟩ := asUn_eq hy
      exact se_not (sE a o _ h)
    · cases h
  | .ite t a b, c, X, o, x, h => by
    simp only [mE] at h
    split at h
    · rename_i y p z hy
      obtain ⟨q, rfl⟩ := asIf_eq hy
      (simp only [Bool.and_eq_true] at h)
      exact se_ite (sE t o _ h.1.1) (sE a o _ h.1.2) (sE b o _ h.2)
    · cases h
  | .idx a i, c, X, o, x, h => by
    simp only [mE] at h
    split at h
    · rename_i y z hy
      obtain ⟨q, rfl⟩ := asSub_eq hy
      (simp only [Bool.and_eq_true] at h)
      exact se_idx o.units h.1.1 (sE a o _ h.1.2) (sE i o _ h.2)
    · cases h
  | .slc a lo hi, c, X, o, x, h => by
    simp only [mE] at h
    split at h
    · rename_i y z hy
      obtain ⟨q, rfl⟩ := asSub_eq hy
      split at h
      · rename_i l u hz
        obtain ⟨sp, rfl⟩ := asSlc_eq hz
        (simp only [Bool.and_eq_true] at h)
        obtain ⟨⟨h1, h2⟩, h3⟩ := h
        refine se_slc (sE a o _ h1) ?_ ?_
        · cases l with
          | none => have h2 : lo.isMiss = true := h2; rw [h2]; exact so_none
          | some l =>
            have h2 : (!lo.isMiss && mE c lo l) = true := h2
            simp only [Bool.and_eq_true, Bool.not_eq_true'] at h2
            rw [h2.1]; exact so_some (sE lo o _ h2.2)
        · cases u with
          | none => have h3 : hi.isMiss = true := h3; rw [h3]; exact so_none
          | some u =>
            have h3 : (!hi.isMiss && mE c hi u) = true := h3
            simp only [Bool.and_eq_true, Bool.not_eq_true'] at h3
            rw [h3.1]; exact so_some (sE hi o _ h3.2)
      · cases h
    · cases h
  | .call f es, c, X, o, x, h => by
    simp only [mE] at h
    split at h
    · rename_i y xs hy
      obtain ⟨p, q, rfl⟩ := asCall_eq hy
      split at h
      · rename_i fn hf
        (simp only [Bool.and_eq_true, decide_eq_true_eq] at h)
        obtain ⟨⟨⟨⟨h1, h2⟩, h3⟩, h4⟩, h5⟩ := h
        exact se_call o hf h1 h3 h4 (mEs_nil h5) (fun ρ h0 ds h' e => by rw [es_len es _ _ _ _ e, mEs_len h5, h2]) (sEs es o _ h5)
      · cases h
    · cases h
  | .callK f es kes pm, c, X, o, x, h => by
    simp only [mE] at h
    split at h
    · rename_i y xs kws hy
      obtain ⟨p, q, rfl⟩ := asCallK_eq hy
      split at h
      · rename_i fn hf
        (simp only [Bool.and_eq_true, decide_eq_true_eq] at h)
        (obtain ⟨⟨⟨⟨⟨⟨⟨h1, h2⟩, h3⟩, h4⟩, h5⟩, h6⟩, h7⟩, h8⟩ := h)
        exact se_callK o hf h1 h5 h6 h2 (mEs_nil h7) (fun ρ h0 ds h' e => by rw [es_len es _ _ _ _ e, mEs_len h7]) (fun ρ h0 ds h' e => by rw [es_len kes _ _ _ _ e, mEs_len h8, h4, List.length_map]) h3 (sEs es o _ h7) (sEs kes o _ h8)
      · cases h
    · cases h
  | .bf f es, c, X, o, x, h => by
    simp only [mE] at h
    split at h
    · rename_i y xs hy
      obtain ⟨p, q, rfl⟩ := asCall_eq hy
      simp only [Bool.and_eq_true, decide_eq_true_eq, Bool.not_eq_true'] at h
      obtain ⟨⟨⟨⟨⟨h1, h2⟩, h3⟩, h4⟩, h5⟩, h6⟩ := h
      subst h1
      obtain ⟨e, es', rfl⟩ := isEmpty_cons_false h3
      cases hb : bfOn f with
      | true => exact se_bf hb o (blt_ok h2).1 (blt_ok h2).2 h4 (sEs es o _ h5)
      | false =>
        rw [hb] at h6
        cases f with
        | list => exact se_list o (blt_ok h2).1 (blt_ok h2).2 h4 (sEs es o _ h5)
        | _ => cases h6
    · cases h
  | .isi a t, c, X, o, x, h => by
    simp only [mE] at h
    split at h
    · rename_i f y ty hy
      obtain ⟨p, q, r, rfl⟩ := asIsi_eq hy
      (simp only [Bool.and_eq_true, decide_eq_true_eq] at h)
      (obtain ⟨⟨⟨⟨⟨⟨h1, h2⟩, h3⟩, h4⟩, h5⟩, h6⟩, h7⟩ := h)
      subst h1
      exact se_isi (by rintro rfl; cases h2) h3 o (blt_ok h4).1 (blt_ok h4).2 (blt_ok h5).1 (blt_ok h5).2 h6 (sE a o _ h7)
    · cases h
  | .mth m a es, c, X, o, x, h => by
    simp only [mE] at h
    split at h
    · rename_i y nm xs hy
      obtain ⟨p, q, rfl, hl⟩ := asMth_eq hy
      (simp only [Bool.and_eq_true, decide_eq_true_eq] at h)
      (obtain ⟨⟨⟨⟨⟨⟨h1, h2⟩, h3⟩, h4⟩, h5⟩, h6⟩, h7⟩ := h)
      subst h1
      have s1 := sE a o _ h6
      have s2 := sEs es o _ h7
      rw [Bool.or_eq_true] at h2
      rcases h2 with h2 | h2
      · have z := se_mth h2 h3 hl h4 h5 (mEs_nil h7) s1 s2
        cases m <;> first | exact z | cases h2
      · rw [Bool.and_eq_true] at h2
        cases m <;> first | cases h2.1 | skip
        cases xs with
        | nil => cases h2.2
        | cons e0 xs => exact se_tidx h3 hl h4 h5 s1 s2
    · cases h
  | .lc t it d e, c, X, o, x, h => by
    simp only [mE] at h
    split at h
    · rename_i elt tg iter ifs scope hy
      obtain ⟨p, rfl⟩ := asLc_eq hy
      (simp only [Bool.and_eq_true] at h)
      obtain ⟨⟨⟨⟨⟨h1, h2⟩, h3⟩, h4⟩, h5⟩, h6⟩ := h
      refine SE.plain (tF_val (se_lcF (pt := evE F G d) (pe := evE F G e) (tt := fun _ _ _ => True) o.calm o.nd (sI it o _ _ h2) (blkOk_by (by rw [o.hN, o.sc]; exact h1)) (own_snd t) (fun s H C cl fp => st_ok o.blk h4) (fun s H C cl fp => ?_) (fun s H C cl fp => (sE e o.blk _ h5).v) (plain_fold h3 _)) fun ρ h d h' e => lc_lst _ _ _ _ e) (fun _ => rfl)
      split at h6
      · cases d with
        | miss => exact ⟨fun pins s σ H Q I ⟨ρ, h, J, re, rh, q⟩ => pts_nil.run pins s σ H Q I (q J H true Ext.refl rh rfl)⟩
        | _ => cases h6
      · exact pts_one (sE d o.blk _ h6).t
      · cases h6
    · cases h
  | .tenum a, c, X, o, x, h => by
    simp only [mE] at h
    split at h
    · rename_i f g y hy
      obtain ⟨p, q, r, s, rfl⟩ := asTenum_eq hy
      (simp only [Bool.and_eq_true, decide_eq_true_eq] at h)
      obtain ⟨⟨⟨⟨⟨h1, h2⟩, h3⟩, h4⟩, h5⟩, h6⟩ := h
      subst h1 h2
      exact se_tenum o (blt_ok h3).1 (blt_ok h3).2 (blt_ok h4).1 (blt_ok h4).2 h5 (sE a o _ h6)
    · cases h
  | .sset a, c, X, o, x, h => by
    simp only [mE] at h
    split at h
    · rename_i f g y hy
      obtain ⟨p, q, r, s, rfl⟩ := asTenum_eq hy
      (simp only [Bool.and_eq_true, decide_eq_true_eq] at h)
      obtain ⟨⟨⟨⟨⟨h1, h2⟩, h3⟩, h4⟩, h5⟩, h6⟩ := h
      subst h1 h2
      exact se_sset o (blt_ok h3).1 (blt_ok h3).2 (blt_ok h4).1 (blt_ok h4).2 h5 (sE a o _ h6)
    · cases h
theorem sF : ∀ (t : E) {c : Cs} {X : Cx} (o : Ok c F G X) (x : Expr), mF c t x = true → SF X x (evE F G t).v
  | .lst es, c, X, o, x, h => by
    simp only [mF] at h
    split at h
    · rename_i y hy
      obtain ⟨p, rfl⟩ := asLst_eq hy
      exact ⟨se_lstF (sEs es o _ h), fun _ => rfl⟩
    · cases h
  | .bf .list es, c, X, o, x, h => by
    simp only [mF] at h
    split at h
    · rename_i y xs hy
      obtain ⟨p, q, rfl⟩ := asCall_eq hy
      simp only [Bool.and_eq_true, decide_eq_true_eq, Bool.not_eq_true'] at h
      obtain ⟨⟨⟨⟨h1, h2⟩, h3⟩, h4⟩, h5⟩ := h
      subst h1
      obtain ⟨e, es', rfl⟩ := isEmpty_cons_false h3
      exact ⟨se_listF o (blt_ok h2).1 (blt_ok h2).2 h4 (sEs es o _ h5), fun _ => rfl⟩
    · cases h
  | .lc t it d e, c, X, o, x, h => by
    simp only [mF] at h
    split at h
    · rename_i elt tg iter ifs scope hy
      obtain ⟨p, rfl⟩ := asLc_eq hy
      (simp only [Bool.and_eq_true] at h)
      obtain ⟨⟨⟨⟨⟨h1, h2⟩, h3⟩, h4⟩, h5⟩, h6⟩ := h
      refine ⟨se_lcF (pt := evE F G d) (pe := evE F G e) (tt := fun _ _ _ => True) o.calm o.nd (sI it o _ _ h2) (blkOk_by (by rw [o.hN, o.sc]; exact h1)) (own_snd t) (fun s H C cl fp => st_ok o.blk h4) (fun s H C cl fp => ?_) (fun s H C cl fp => (sE e o.blk _ h5).v) (plain_fold h3 _), fun _ => rfl⟩
      split at h6
      · cases d with
        | miss => exact ⟨fun pins s σ H Q I ⟨ρ, h, J, re, rh, q⟩ => pts_nil.run pins s σ H Q I (q J H true Ext.refl rh rfl)⟩
        | _ => cases h6
      · exact pts_one (sE d o.blk _ h6).t
      · cases h6
    · cases h
  | .var _, _, _, _, _, h => by cases h
  | .con _, _, _, _, _, h => by cases h
  | .glo _, _, _, _, _, h => by cases h
  | .miss, _, _, _, _, h => by cases h
  | .tup _, _, _, _, _, h => by cases h
  | .ftup _, _, _, _, _, h => by cases h
  | .new _, _, _, _, _, h => by cases h
  | .dic0, _, _, _, _, h => by cases h
  | .bin _ _ _, _, _, _, _, h => by cases h
  | .neg _, _, _, _, _, h => by cases h
  | .cmp _ _ _, _, _, _, _, h => by cases h
  | .chain _ _ _ _ _, _, _, _, _, h => by cases h
  | .and _ _, _, _, _, _, h => by cases h
  | .or _ _, _, _, _, _, h => by cases h
  | .not _, _, _, _, _, h => by cases h
  | .ite _ _ _, _, _, _, _, h => by cases h
  | .idx _ _, _, _, _, _, h => by cases h
  | .slc _ _ _, _, _, _, _, h => by cases h
  | .call _ _, _, _, _, _, h => by cases h
  | .callK _ _ _ _, _, _, _, _, h => by cases h
  | .isi _ _, _, _, _, _, h => by cases h
  | .tenum _, _, _, _, _, h => by cases h
  | .sset _, _, _, _, _, h => by cases h
  | .mth _ _ _, _, _, _, _, h => by cases h
  | .bf .len _, _, _, _, _, h => by cases h
  | .bf .int _, _, _, _, _, h => by cases h
  | .bf .abs _, _, _, _, _, h => by cases h
  | .bf .tuple _, _, _, _, _, h => by cases h
  | .bf .max2 _, _, _, _, _, h => by cases h
  | .bf .min2 _, _, _, _, _, h => by cases h
  | .bf .sum _, _, _, _, _, h => by cases h
  | .bf .all _, _, _, _, _, h => by cases h
  | .bf .any _, _, _, _, _, h => by cases h
  | .bf .sorted _, _, _, _, _, h => by cases h
  | .bf .repr _, _, _, _, _, h => by cases h
theorem sEs : ∀ (t : Es) {c : Cs} {X : Cx} (o : Ok c F G X) (xs : List Expr), mEs c t xs = true → SEs X xs (evEs F G t)
  | .nil, c, X, o, [], h => ses_nil
  | .nil, c, X, o, _ :: _, h => by cases h
  | .cons _ _, c, X, o, [], h => by cases h
  | .cons e es, c, X, o, x :: xs, h => by
    simp only [mEs, Bool.and_eq_true] at h
    exact ses_cons h.1.1 (sE e o _ h.1.2) (sEs es o _ h.2)
theorem sI : ∀ (t : I) {c : Cs} {X : Cx} (o : Ok c F G X) (tg x : Expr), mI c t tg x = true → PI X tg x (tI X.K (evI F G t))
  | .ev e, c, X, o, tg, x, h => pi_any (sE e o x h).v
  | .rng n, c, X, o, tg, x, h => by
    simp only [mI] at h
    split at h
    · rename_i f y hy
      obtain ⟨p, q, rfl⟩ := asCall_eq hy
      (simp only [Bool.and_eq_true, decide_eq_true_eq] at h)
      (obtain ⟨⟨⟨h1, h2⟩, h3⟩, h4⟩ := h)
      subst h1
      exact pi_rng (glb_ok o (blt_ok h2).2).1 (o.blt _ (blt_ok h2).1) h3 (sE n o _ h4)
    · cases h
  | .rng2 a b, c, X, o, tg, x, h => by
    simp only [mI] at h
    split at h
    · rename_i f y z hy
      obtain ⟨p, q, rfl⟩ := asCall_eq hy
      (simp only [Bool.and_eq_true, decide_eq_true_eq] at h)
      obtain ⟨⟨⟨⟨⟨h1, h2⟩, h3⟩, h4⟩, h5⟩, h6⟩ := h
      subst h1
      exact pi_rng2 (glb_ok o (blt_ok h2).2).1 (o.blt _ (blt_ok h2).1) h3 h4 (sE a o _ h5) (sE b o _ h6)
    · cases h
  | .zip a b, c, X, o, tg, x, h => by
    simp only [mI] at h
    split at h
    · rename_i f y z hy
      obtain ⟨p, q, rfl⟩ := asCall_eq hy
      (simp only [Bool.and_eq_true, decide_eq_true_eq] at h)
      (obtain ⟨⟨⟨⟨⟨⟨h1, h2⟩, h3⟩, h4⟩, h5⟩, h6⟩, h7⟩ := h)
      subst h1
      cases ht : asTup tg with
      | none => rw [ht] at h7; cases h7
      | some es =>
        obtain ⟨k, tp, rfl⟩ := asTup_eq ht
        exact pi_zipS (glb_ok o (blt_ok h2).2).1 (o.blt _ (blt_ok h2).1) h3 h4 (sE a o _ h5) (sE b o _ h6)
    · cases h
  | .enum _, c, X, o, tg, x, h => by cases h
end
end
end PV
end

section
set_option maxRecDepth 100000
namespace PV
open L2 PySem PySem.Spec PyProof.Rows

/-! ### what is wanted behind a statement -/
structure KW where
  K : PySem.W.Frag
  mg : Str → Option Value
  /-- what is wished of an exception -/
  W : WX
abbrev kw (X : Cx) (W : WX) : KW := ⟨X.K, X.mg, W⟩
def PostS (κ : KW) (J : Jn) (H : Hp) (r : RS) (D : Ends) : Prop := match r with
  | .nxt ρ h => ∀ J' H' σ, Ext J H J' H' → RE κ.K J' H' ρ σ → RH κ.K J' h H' → D.nx σ H'
  | .brk ρ h => ∀ J' H' σ, Ext J H J' H' → RE κ.K J' H' ρ σ → RH κ.K J' h H' → D.bk σ H'
  | .cnt ρ h => ∀ J' H' σ, Ext J H J' H' → RE κ.K J' H' ρ σ → RH κ.K J' h H' → D.ct σ H'
  | .ret d h => ∀ J' H' v, Ext J H J' H' → RH κ.K J' h H' → RD κ.K J' H' d v → D.rt v H'
  | .err ρ x h => ∀ J' H' σ cls d, Ext J H J' H' → RE κ.K J' H' ρ σ → RH κ.K J' h H' → RX κ.mg x cls d → κ.W cls d σ H'
  | .bad => False
def tS (κ : KW) (f : Env → Hh → RS) : TS := fun D σ H => ∃ ρ h J, RE κ.K J H ρ σ ∧ RH κ.K J h H ∧ PostS κ J H (f ρ h) D
section
variable {κ : KW} {J J' : Jn} {H H' : Hp} {h h' : Hh} {ρ : Env} {σ : L2.St} {α β : Type} {D : Ends}
theorem PostS.ext {r : RS} (rh : RH κ.K J h H) (rh' : RH κ.K J' h' H') (e : Ext J H J' H') (p : PostS κ J H r D) : PostS κ J' H' r D := by
  cases r with
  | nxt ρ h2 => exact fun J2 H2 s e2 re2 rh2 => p J2 H2 s (e.trans rh rh' e2) re2 rh2
  | brk ρ h2 => exact fun J2 H2 s e2 re2 rh2 => p J2 H2 s (e.trans rh rh' e2) re2 rh2
  | cnt ρ h2 => exact fun J2 H2 s e2 re2 rh2 => p J2 H2 s (e.trans rh rh' e2) re2 rh2
  | ret d h2 => exact fun J2 H2 s e2 rh2 rd => p J2 H2 s (e.trans rh rh' e2) rh2 rd
  | bad => exact p
  | err ρ x h2 => exact fun J2 H2 s c d e2 re2 rh2 rx => p J2 H2 s c d (e.trans rh rh' e2) re2 rh2 rx
theorem PostS.step {R1 : RelA α β} {f : Env → Hh → R α} {g : α → Hh → RS} (re : RE κ.K J H ρ σ) (rh : RH κ.K J h H) (p : PostS κ J H ((f ρ h).then_ g) D) :
    tG κ.K R1 f σ H (fun b H1 => ∃ J1 h1 a, Ext J H J1 H1 ∧ RE κ.K J1 H1 ρ σ ∧ RH κ.K J1 h1 H1 ∧ R1 J1 H1 a b ∧ PostS κ J1 H1 (g a h1) D) := by
  refine ⟨ρ, h, J, re, rh, ?_⟩
  cases q : f ρ h with
  | ok a h1 =>
    rw [q] at p
    exact fun J1 H1 b e rh1 rl => ⟨J1, h1, a, e, re.ext e, rh1, rl, PostS.ext rh rh1 e p⟩
  | bad => rw [q] at p; exact p
  | err _ _ => rw [q] at p; exact p
theorem PostS.seq {r : RS} {g : Env → Hh → RS} (rh : RH κ.K J h H) (p : PostS κ J H (r.then_ g) D) : PostS κ J H r { D with nx := tS κ g D } := by
  cases r with
  | nxt ρ h2 => exact fun J2 H2 s e2 re2 rh2 => ⟨ρ, h2, J2, re2, rh2, PostS.ext rh rh2 e2 p⟩
  | brk ρ h2 => exact p
  | cnt ρ h2 => exact p
  | ret d h2 => exact p
  | bad => exact p
  | err _ _ _ => exact p
end
section
variable {K : PySem.W.Frag} {J J' : Jn} {H H' : Hp} {h h' : Hh} {ρ : Env} {σ : L2.St} {α β : Type} {D : Ends}

/-! ### objects let go -/
abbrev Jn.cut (J : Jn) (n : Nat) : Jn := ⟨J.l.take n, J.z⟩
mutual
theorem RD.cut {n : Nat} : ∀ {d : PV.D} {v : V}, d.rlt n = true → RD K J H d v → RD K (J.cut n) H d v
  | _, _, _, .non => .non
  | _, _, _, .bl b => .bl b
  | _, _, _, .int i => .int i
  | _, _, _, .str x => .str x
  | _, _, h, .tup a m q z r => .tup (fun hm => a (List.mem_of_mem_take hm)) m q z (RDs.cut h r)
  | _, _, h, .ktup k z r => .ktup k z (RDs.cut h r)
  | _, _, h, .lst a m q z r => .lst (fun hm => a (List.mem_of_mem_take hm)) m q z (RDs.cut h r)
  | _, _, h, .ref q => .ref (by
      have h : decide (_ < n) = true := h
      have := of_decide_eq_true h
      show (J.l.take n)[_]? = _
      rw [List.getElem?_take_of_lt this]; exact q)
  | _, _, h, .fz a m q z r => .fz (fun hm => a (List.mem_of_mem_take hm)) m q z (RDs.cut h r)
  | _, _, h, .kfz k z r => .kfz k z (RDs.cut h r)
  | _, _, h, .ft a m q c d z r => .ft (fun hm => a (List.mem_of_mem_take hm)) m q c d z (RDs.cut h r)
theorem RDs.cut {n : Nat} : ∀ {ds : List PV.D} {vs : List V}, PV.D.rlts n ds = true → RDs K J H ds vs → RDs K (J.cut n) H ds vs
  | _, _, _, .nil => .nil
  | _, _, h, .cons r t => by
    simp only [PV.D.rlts, Bool.and_eq_true] at h
    exact .cons (RD.cut h.1 r) (RDs.cut h.2 t)
end
theorem paired_all {γ δ : Type} {Q Q' : γ → δ → Prop} {f : γ → Bool} (hf : ∀ p q, f p = true → Q p q → Q' p q) : ∀ {xs : List γ} {ys : List δ}, xs.all f = true → Paired Q xs ys → Paired Q' xs ys
  | _, _, _, .nil => .nil
  | _, _, h, .cons x t => by
    (simp only [List.all_cons, Bool.and_eq_true] at h)
    exact .cons (hf _ _ h.1 x) (paired_all hf h.2 t)
theorem RO.cut {n : Nat} {o : O} {u : HO} (h : o.rlt n = true) (r : RO K J H o u) : RO K (J.cut n) H o u := by
  cases r with
  | lst z r => exact .lst z (r.cut h)
  | @dct kvs kws z r =>
    have h : (kvs.all fun p : Key × PV.D => p.2.rlt n) = true := h
    exact .dct z (paired_all (fun p q hp x => ⟨x.1, x.2.cut hp⟩) h r)
theorem RH.cut {n : Nat} (hn : n ≤ h.length) (hr : Hh.rlt (h.take n) n = true) (rh : RH K J h H) : RH K (J.cut n) (h.take n) H where
  nd := (List.take_sublist n J.l).nodup rh.nd
  len := by show (J.l.take n).length = _; rw [List.length_take, List.length_take, rh.len]
  obj := fun i o e => by
    have hi : i < n := by
      have := (List.getElem?_eq_some_iff.mp e).1
      simp at this; omega
    have e' : h[i]? = some o := by rw [List.getElem?_take_of_lt hi] at e; exact e
    obtain ⟨a, u, h1, h2, h3⟩ := rh.obj i o e'
    refine ⟨a, u, by show (J.l.take n)[i]? = _; rw [List.getElem?_take_of_lt hi]; exact h1, h2, h3.cut ?_⟩
    exact List.all_eq_true.mp hr o (List.mem_of_getElem? e)
  apart := fun a ha hm => rh.apart a ha (List.mem_of_mem_take hm)
  zed := rh.zed
theorem kill_get : ∀ {ks : List Nat} {ρ : Env} {i : Nat} {d : PV.D}, (kill ks ρ)[i]? = some (some d) → ρ[i]? = some (some d)
  | [], _, _, _, e => e
  | k :: ks, ρ, i, d, e => by
    have := kill_get (ks := ks) e
    by_cases hj : k = i
    · subst hj
      by_cases hl : k < ρ.length
      · rw [List.getElem?_set_self hl] at this; cases this
      · rw [List.getElem?_eq_none (by simpa using hl)] at this; cases this
    · rwa [List.getElem?_set_ne hj] at this
theorem kill_len : ∀ {ks : List Nat} {ρ : Env}, (kill ks ρ).length = ρ.length
  | [], _ => rfl
  | k :: ks, ρ => by show (kill ks _).length = _; rw [kill_len, List.length_set]
theorem RE.cut {n : Nat} {ks : List Nat} (hr : Env.rlt n (kill ks ρ) = true) (re : RE K J H ρ σ) : RE K (J.cut n) H (kill ks ρ) σ := by
  refine ⟨by rw [kill_len]; exact re.len, fun i d q => ?_⟩
  obtain ⟨v, h1, h2⟩ := re.get i d (kill_get q)
  exact ⟨v, h1, h2.cut (List.all_eq_true.mp hr (some d) (List.mem_of_getElem? q))⟩
theorem Ext.cut (rh : RH K J h H) (e : Ext J H J' H') : Ext J H (J'.cut h.length) H' := by
  obtain ⟨m, hm, _⟩ := e.pre
  refine ⟨e.z, ⟨[], ?_, by simp⟩, e.keep⟩
  show J'.l.take h.length = J.l ++ []
  rw [hm, ← rh.len, List.take_left, List.append_nil]
theorem PostS.gc {κ : KW} {r : RS} {ks : List Nat} (rh : RH κ.K J h H) (p : PostS κ J H (gcS ks h.length r) D) : PostS κ J H r D := by
  have hle : ∀ {J' : Jn} {H' : Hp} {h' : Hh}, Ext J H J' H' → RH κ.K J' h' H' → h.length ≤ h'.length := fun e rh' => by
    obtain ⟨m, hm, _⟩ := e.pre
    rw [← rh'.len, ← rh.len, hm, List.length_append]; omega
  cases r with
  | nxt ρ h2 =>
    simp only [gcS] at p
    split at p
    · rename_i hc
      (simp only [Bool.and_eq_true] at hc)
      exact fun J2 H2 s e2 re2 rh2 => p _ H2 s (e2.cut rh) (re2.cut hc.1) (rh2.cut (hle e2 rh2) hc.2)
    · exact p.elim
  | brk ρ h2 =>
    simp only [gcS] at p
    split at p
    · rename_i hc
      (simp only [Bool.and_eq_true] at hc)
      exact fun J2 H2 s e2 re2 rh2 => p _ H2 s (e2.cut rh) (re2.cut hc.1) (rh2.cut (hle e2 rh2) hc.2)
    · exact p.elim
  | cnt ρ h2 =>
    simp only [gcS] at p
    split at p
    · rename_i hc
      (simp only [Bool.and_eq_true] at hc)
      exact fun J2 H2 s e2 re2 rh2 => p _ H2 s (e2.cut rh) (re2.cut hc.1) (rh2.cut (hle e2 rh2) hc.2)
    · exact p.elim
  | ret d h2 => exact p
  | bad => exact p
  | err _ _ _ => exact p
end

/-! ### the statements -/
section
variable {X : Cx} {W : WX} {e x a b : Expr} {st : Stmt} {p pa pb pc : P} {pos pos' : Pos}
theorem ss_nil : PSs X [] (tS (kw X W) fun ρ h => .nxt ρ h) := pss_nil.imp fun D σ H ⟨ρ, h, J, re, rh, q⟩ => q J H σ Ext.refl re rh
theorem ss_cons {sts : List Stmt} {f g : Env → Hh → RS} (h1 : PS X st (tS (kw X W) f)) (h2 : PSs X sts (tS (kw X W) g)) : PSs X (st :: sts) (tS (kw X W) fun ρ h => (f ρ h).then_ g) :=
  (pss_cons h1 h2).imp fun D σ H ⟨ρ, h, J, re, rh, q⟩ => ⟨ρ, h, J, re, rh, q.seq rh⟩
def notComp : Expr → Bool
  | .ListComp .. => false
  | .SetComp .. => false
  | .DictComp .. => false
  | _ => true
theorem swaps_not {t : Option Expr} {l : Nat} {env : PySem.Env} (h : notComp e = true) : swapsWith e t l env = pure false := by cases e <;> first | rfl | cases h
/-- the value of an assignment to a name: no comprehension, or the name is a cell -/
def mayAsg (c : Bool) : Expr → Bool
  | .ListComp .. => c
  | e => notComp e
theorem swaps_may {y : Str} {py : Pos} {l : Nat} {env : PySem.Env} {e : Expr} {c : Bool} (hc : c = true → env.scope.names.lookup y = some .cell) (h : mayAsg c e = true) : swapsWith e (some (.Name y py)) l env = pure false := by
  cases e with
  | ListComp elt gs sc pos =>
    have k : env.kindOf y = some .cell := hc h
    unfold swapsWith
    simp only [k]
    have : (some NameKind.cell == some NameKind.local) = false := rfl
    rw [this]
    simp only [Bool.and_false, Bool.false_and] <;> rfl
  | _ => first | rfl | cases h
theorem ss_asg {i : Nat} {y : Str} {c : Bool} (hN : X.N.Nodup) (hi : X.N[i]? = some y) (hx : L2.Loc X.env.scope y) (hf : X.fn y = true ∨ X.env.scope.names.lookup y = some .local) (hc : c = true → X.env.scope.names.lookup y = some .cell) (hn : mayAsg c e = true) (he : SE X e p) :
    PS X (.Assign [.Name y pos'] e pos) (tS (kw X W) fun ρ h => (p.v ρ h).then_ fun x h1 => .nxt (ρ.set i (some x)) h1) :=
  (ps_set hN hi hx he.v (swaps_may hc hn) hf).imp fun D σ H ⟨ρ, h, J, re, rh, q⟩ => (PostS.step (R1 := rD X.K) (f := p.v) re rh q).mono fun x H1 ⟨J1, h1, dx, e1, re1, rh1, rx, q1⟩ => q1 J1 H1 _ Ext.refl (re1.set i rx) rh1
theorem ss_exp (hn : notComp e = true) (he : SE X e p) : PS X (.Expr e pos) (tS (kw X W) fun ρ h => (p.v ρ h).then_ fun _ h1 => .nxt ρ h1) :=
  (ps_expr he.v (swaps_not hn)).imp fun D σ H ⟨ρ, h, J, re, rh, q⟩ => (PostS.step (R1 := rD X.K) (f := p.v) re rh q).mono fun x H1 ⟨J1, h1, dx, e1, re1, rh1, rx, q1⟩ => q1 J1 H1 _ Ext.refl re1 rh1
theorem ss_ret (he : SE X e p) : PS X (.Return (some e) pos) (tS (kw X W) fun ρ h => (p.v ρ h).then_ fun x h1 => .ret x h1) :=
  (ps_ret he.v).imp fun D σ H ⟨ρ, h, J, re, rh, q⟩ => (PostS.step (R1 := rD X.K) (f := p.v) re rh q).mono fun x H1 ⟨J1, h1, dx, e1, re1, rh1, rx, q1⟩ => q1 J1 H1 _ Ext.refl rh1 rx
theorem ss_retN : PS X (.Return none pos) (tS (kw X W) fun _ h => .ret .non h) := ps_retN.imp fun D σ H ⟨ρ, h, J, re, rh, q⟩ => q J H _ Ext.refl rh .non
theorem ss_pass : PS X (.Pass pos) (tS (kw X W) fun ρ h => .nxt ρ h) := ps_pass.imp fun D σ H ⟨ρ, h, J, re, rh, q⟩ => q J H σ Ext.refl re rh
theorem ss_brk : PS X (.Break pos) (tS (kw X W) fun ρ h => .brk ρ h) := ps_break.imp fun D σ H ⟨ρ, h, J, re, rh, q⟩ => q J H σ Ext.refl re rh
theorem ss_cnt : PS X (.Continue pos) (tS (kw X W) fun ρ h => .cnt ρ h) := ps_continue.imp fun D σ H ⟨ρ, h, J, re, rh, q⟩ => q J H σ Ext.refl re rh
theorem ss_if {as bs : List Stmt} {f g : Env → Hh → RS} (hc : SE X e p) (ha : PSs X as (tS (kw X W) f)) (hb : PSs X bs (tS (kw X W) g)) : PS X (.If e as bs pos) (tS (kw X W) fun ρ h => (p.t ρ h).then_ fun t h1 => if t then f ρ h1 else g ρ h1) :=
  (ps_if hc.t ha hb).imp fun D σ H ⟨ρ, h, J, re, rh, q⟩ => (PostS.step (R1 := rB) (f := p.t) re rh q).mono fun x H1 ⟨J1, h1, t, e1, re1, rh1, rx, q1⟩ => by
    have rx : t = x := rx
    subst rx
    cases t with
    | true => exact ⟨ρ, h1, J1, re1, rh1, q1⟩
    | false => exact ⟨ρ, h1, J1, re1, rh1, q1⟩
theorem ss_whl {body : List Stmt} {f : Env → Hh → RS} (hx : PassesOwn (model X.prog X.w) X.A X.env X.xe) (hc : SE X e p) (hb : PSs X body (tS (kw X W) f)) : PS X (.While e body [] pos) (tS (kw X W) fun ρ h => whlLoop p.t f wfuel ρ h) := by
  refine (ps_while hx hc.t hb).imp fun D σ H ⟨ρ, h, J, re, rh, q⟩ => ?_
  refine ⟨fun m σ H => ∃ ρ h J, RE X.K J H ρ σ ∧ RH X.K J h H ∧ PostS (kw X W) J H (whlLoop p.t f m ρ h) D, ⟨wfuel, ρ, h, J, re, rh, q⟩, ?_⟩
  clear q re rh
  rintro m σ H ⟨ρ, h, J, re, rh, q⟩
  cases m with
  | zero => exact False.elim q
  | succ m =>
    refine (PostS.step (R1 := rB) (f := p.t) re rh q).mono fun x H1 ⟨J1, h1, t, e1, re1, rh1, rx, q1⟩ => ?_
    have rx : t = x := rx
    subst rx
    cases t with
    | false => exact q1 J1 H1 _ Ext.refl re1 rh1
    | true =>
      simp only [if_true] at q1 ⊢
      refine ⟨fun σ' H' => ∃ ρ h J, RE X.K J H' ρ σ' ∧ RH X.K J h H' ∧ PostS (kw X W) J H' (whlLoop p.t f m ρ h) D, fun σ' H' z => ⟨m, Nat.lt_succ_self m, z⟩, ρ, h1, J1, re1, rh1, ?_⟩
      cases ef : f ρ h1 with
      | nxt ρ' h' => rw [ef] at q1; exact fun J2 H2 s e2 re2 rh2 => ⟨ρ', h', J2, re2, rh2, PostS.ext rh1 rh2 e2 q1⟩
      | cnt ρ' h' => rw [ef] at q1; exact fun J2 H2 s e2 re2 rh2 => ⟨ρ', h', J2, re2, rh2, PostS.ext rh1 rh2 e2 q1⟩
      | brk ρ' h' => rw [ef] at q1; exact q1
      | ret d h' => rw [ef] at q1; exact q1
      | bad => rw [ef] at q1; exact q1
      | err _ _ _ => rw [ef] at q1; exact q1
theorem ss_for {tg iter : Expr} {body : List Stmt} {t : Tg} {fi : Env → Hh → R Src} {f : Env → Hh → RS} (hx : PassesOwn (model X.prog X.w) X.A X.env X.xe) (hc : X.calm = true) (hi : PI X tg iter (tI X.K fi)) (hg : ST X tg t t.slots) (hb : PSs X body (tS (kw X W) f)) (hp : plainX iter = true) :
    PS X (.For tg iter body [] pos) (tS (kw X W) fun ρ h => (fi ρ h).then_ fun s h1 => forLoop s.good t f s.items ρ h1) := by
  refine (ps_for hx hc hi hg.run hb (plain_fold hp _)).imp fun D σ H ⟨ρ, h, J, re, rh, q⟩ => ?_
  refine ⟨ρ, h, J, re, rh, ?_⟩
  dsimp only at q
  cases ev : fi ρ h with
  | bad => rw [ev] at q; exact q
  | err _ _ => rw [ev] at q; exact q
  | ok src h1 =>
    rw [ev, R.then_ok] at q
    intro J1 H1 it e1 rh1 itok
    let Wf : Nat → Nat → L2.St → Hp → Prop := fun i m σ H2 => m = src.items.length - i ∧ i ≤ src.items.length ∧ ∃ ρ2 h2 J2, RE X.K J2 H2 ρ2 σ ∧ RH X.K J2 h2 H2 ∧ Sub J1 H1 J2 H2 ∧ PostS (kw X W) J2 H2 (forLoop src.good t f (src.items.drop i) ρ2 h2) D
    refine ⟨Wf, ⟨src.items.length, by simp, Nat.zero_le _, ρ, h1, J1, re.ext e1, rh1, Sub.refl, PostS.ext rh rh1 e1 q⟩, fun i m σ H2 hW => ?_⟩
    clear q
    obtain ⟨rfl, hi', ρ2, h2, J2, re2, rh2, s2, q⟩ := hW
    cases hd : src.items[i]? with
    | none =>
      have hlen : i = src.items.length := by have := List.getElem?_eq_none_iff.mp hd; omega
      subst hlen
      rw [List.drop_eq_nil_of_le (Nat.le_refl _)] at q
      unfold forLoop at q
      split at q
      · rename_i hgood
        exact .inl ⟨itok.stop s2 rh2 hgood, q J2 H2 σ Ext.refl re2 rh2⟩
      · exact False.elim q
    | some d =>
      have hlt : i < src.items.length := (List.getElem?_eq_some_iff.mp hd).1
      rw [List.drop_eq_getElem_cons hlt] at q
      have hde : src.items[i] = d := by rw [List.getElem?_eq_getElem hlt] at hd; exact Option.some.inj hd
      rw [hde] at q
      unfold forLoop at q
      cases hgood : src.good h2 with
      | false => rw [hgood] at q; exact False.elim q
      | true =>
        rw [hgood] at q
        simp only [if_true] at q
        obtain ⟨g1, g2⟩ := itok.go s2 rh2 hgood hd
        refine .inr ⟨g1, fun σ' H' => ∃ m', m' < src.items.length - i ∧ Wf (i + 1) m' σ' H', fun σ' H' z => z, fun xv H3 y3 => ?_⟩
        obtain ⟨e3, rh3, rd3⟩ := g2 xv H3 y3
        cases ht2 : t.put d ρ2 with
        | none => simp only [ht2] at q; exact False.elim q
        | some ρ' =>
          simp only [ht2] at q
          have q := PostS.ext rh2 rh3 e3 q
          refine ⟨ρ2, ρ', h2, J2, d, re2.ext e3, rh3, rd3, ht2, fun σ2 re4 hk hl => ⟨ρ', h2, J2, re4, rh3, ?_⟩⟩
          have again : ∀ {ρ5 : Env} {h5 : Hh}, PostS (kw X W) J2 H3 (forLoop src.good t f (src.items.drop (i + 1)) ρ5 h5) D → ∀ J5 H5 σ5, Ext J2 H3 J5 H5 → RE X.K J5 H5 ρ5 σ5 → RH X.K J5 h5 H5 → ∃ m', m' < src.items.length - i ∧ Wf (i + 1) m' σ5 H5 :=
            fun {ρ5 h5} q5 J5 H5 σ5 e5 re5 rh5 => ⟨_, by omega, rfl, hlt, ρ5, h5, J5, re5, rh5, (s2.trans e3.sub).trans e5.sub, PostS.ext rh3 rh5 e5 q5⟩
          cases ef : f ρ' h2 with
          | nxt ρ5 h5 => rw [ef] at q; exact again q
          | cnt ρ5 h5 => rw [ef] at q; exact again q
          | brk ρ5 h5 => rw [ef] at q; exact q
          | ret d h' => rw [ef] at q; exact q
          | bad => rw [ef] at q; exact q
          | err _ _ _ => rw [ef] at q; exact q
/-! ### calls whose exception goes on -/
theorem callX_do {F : Fns} {f n : Nat} {pl : PL} {g : D → Env → Hh → RS} {D : Ends} {σ : L2.St} {H : Hp} (hlen : ∀ ρ h ds h', pl.l ρ h = .ok ds h' → ds.length = n) (ρ : Env) (h : Hh) (J : Jn) (re : RE X.K J H ρ σ) (rh : RH X.K J h H) (q : PostS (kw X W) J H ((pl.l ρ h).then_ fun xs h1 => (F f xs h1).thenX ρ fun x h2 => g x ρ h2) D) :
    tCX X W F f n pl.l σ H (fun v H1 => ∃ d h1 J1, RE X.K J1 H1 ρ σ ∧ RH X.K J1 h1 H1 ∧ RD X.K J1 H1 d v ∧ PostS (kw X W) J1 H1 (g d ρ h1) D) := by
  refine ⟨ρ, h, J, re, rh, ?_⟩
  cases ev : pl.l ρ h with
  | bad => rw [ev] at q; exact q
  | err _ _ => rw [ev] at q; exact q
  | ok ds h1 =>
    rw [ev, R.then_ok] at q
    intro J1 H1 vs e1 rh1 rs
    have q1 := PostS.ext rh rh1 e1 q
    refine ⟨J1, h1, ds, rh1, rs, hlen _ _ _ _ ev, ?_⟩
    have re1 := re.ext e1
    cases ef : F f ds h1 with
    | bad => rw [ef] at q1; exact q1
    | err x h2 => rw [ef] at q1; exact fun J2 H2 c d e2 rh2 rx => q1 J2 H2 σ c d e2 (re1.ext e2) rh2 rx
    | ok d h2 => rw [ef] at q1; exact fun J2 H2 b e2 rh2 rd => ⟨d, h2, J2, re1.ext e2, rh2, rd, PostS.ext rh1 rh2 e2 q1⟩
end
end PV
end

section
set_option maxRecDepth 100000
namespace PV
open L2 PySem PySem.Spec PyProof.Rows
section
variable {X : Cx} {W : WX} {e x a b : Expr} {st : Stmt} {p pa pb pc : P} {pos pos' : Pos}

/-! ### several names at once -/
theorem ss_unp {es : List Expr} {is : List Nat} {k : Nat} {tp : Pos} (hc : X.calm = true) (hs : STs X es is) (hn : notComp e = true) (ht : swappedStores [.Tuple es k tp] e X.env = pure none) (he : SE X e p) :
    PS X (.Assign [.Tuple es k tp] e pos) (tS (kw X W) fun ρ h => (p.v ρ h).then_ fun x h1 => RS.opt ((Tg.tu is).put x ρ) h1) := by
  refine (ps_asg he.v (st_tu hc hs).run ?_ ?_).imp fun D σ H ⟨ρ, h, J, re, rh, q⟩ => ?_
  · unfold swapsWithSole
    exact swaps_not hn
  · exact ht
  refine (PostS.step (R1 := rD X.K) (f := p.v) re rh q).mono fun x H1 ⟨J1, h1, dx, e1, re1, rh1, rx, q1⟩ => ?_
  cases hp : (Tg.tu is).put dx ρ with
  | none => rw [hp] at q1; exact False.elim q1
  | some ρ' => rw [hp] at q1; exact ⟨ρ, ρ', h1, J1, dx, re1, rh1, rx, hp, fun σ' re' _ _ => q1 J1 H1 σ' Ext.refl re' rh1⟩
theorem swapped_no {es : List Expr} {k : Nat} {tp : Pos} {env : PySem.Env} (ht : asTup e = none) : swappedStores [.Tuple es k tp] e env = pure none := by
  cases e <;> first | rfl | cases ht
theorem filter_lt {α β : Type} {f : α → Option β} : ∀ {l : List α}, (∃ x ∈ l, f x = none) → (l.filterMap f).length ≠ l.length
  | [], h => by obtain ⟨x, hx, _⟩ := h; cases hx
  | y :: l, h => by
    obtain ⟨x, hx, e⟩ := h
    have le := List.length_filterMap_le f l
    cases q : f y with
    | none => rw [List.filterMap_cons_none q, List.length_cons]; omega
    | some z =>
      rw [List.filterMap_cons_some q, List.length_cons, List.length_cons]
      (rcases List.mem_cons.mp hx with rfl | hx)
      · rw [q] at e; cases e
      · have := filter_lt (l := l) ⟨x, hx, e⟩
        omega
/-- .. a captured one among them: they are not -/
theorem swapped_cel {es : List Expr} {tp : Pos} {k : Nat} {env : PySem.Env} (h : ∃ y ∈ es, ∃ x p, y = .Name x p ∧ env.scope.names.lookup x = some .cell) : swappedStores [.Tuple es k tp] e env = pure none := by
  have one : ∀ line : Nat, ((es.filterMap fun
    | .Name id p0 => if env.kindOf id == some .local && p0.line == line then some id else none
    | _ => none).length ≠ es.length) := by
    intro line
    refine filter_lt ?_
    obtain ⟨y, hy, x, p, rfl, hl⟩ := h
    have kx : env.kindOf x = some .cell := hl
    exact ⟨_, hy, by simp [kx]⟩
  unfold swappedStores
  cases e <;> try rfl
  dsimp only
  split
  · rfl
  · split
    · rfl
    · rw [if_pos]
      rw [Bool.or_eq_true]
      exact .inl (bne_iff_ne.mpr (one _))
/-- two names from two values: the stores are swapped -/
theorem swapped_two {x y : Str} {px py tp vp : Pos} {k k2 : Nat} {env : PySem.Env} (hk : env.scope.kind = .function) (hx : env.scope.names.lookup x = some .local) (hy : env.scope.names.lookup y = some .local) (hne : x ≠ y) (hl : (py.line == px.line) = true)
    (ha : plainX a = true) (hb : plainX b = true) (hf : (foldedForSure 8 a && foldedForSure 8 b) = false) (hcn : (constantsAlone 8 a && constantsAlone 8 b) = false) :
    swappedStores [.Tuple [.Name x px, .Name y py] k tp] (.Tuple [a, b] k2 vp) env = pure (some [x, y]) := by
  have kx : env.kindOf x = some .local := hx
  (have ky : env.kindOf y = some .local := hy)
  have hbk : env.blockKind = .function := by unfold PySem.Env.blockKind; rw [hk]; rfl
  have h1 : ([a, b].any fun | .Starred .. => true | _ => false) = false := by
    cases a <;> first | (exfalso; cases ha; done) | (cases b <;> first | (exfalso; cases hb; done) | rfl)
  have h2 : [a, b].all (foldedForSure 8) = false := by simpa using hf
  have h3 : [a, b].all (constantsAlone 8) = false := by simpa using hcn
  have hl' : py.line = px.line := by simpa using hl
  have h5 : ([x, y] : List Str).eraseDups.length = 2 := by
    have h6 : (y == x) = false := by simpa using (Ne.symm hne)
    simp [List.eraseDups_cons, h6]
  unfold swappedStores
  simp only [hbk, h1, h2, h3, List.filterMap_cons, List.filterMap_nil, kx, ky, List.head?_cons, Option.map_some, Option.getD_some, Expr.pos, hl', beq_self_eq_true, Bool.and_self, if_true, h5]
  rw [if_neg (by simp), if_neg (fun hh => absurd (hh.symm.trans h1) (by decide)), if_neg (by simp), if_neg (by decide), if_neg (by decide)]
theorem ss_par {i j : Nat} {x y : Str} {px py tp vp : Pos} {k k2 : Nat} (hc : X.calm = true) (hN : X.N.Nodup) (hi : X.N[i]? = some x) (hj : X.N[j]? = some y) (hij : i ≠ j) (hk : X.env.scope.kind = .function)
    (hx : X.env.scope.names.lookup x = some .local) (hy : X.env.scope.names.lookup y = some .local) (hne : x ≠ y) (hl : (py.line == px.line) = true) (hpa : plainX a = true) (hpb : plainX b = true) (hf : (foldedForSure 8 a && foldedForSure 8 b) = false) (hcn : (constantsAlone 8 a && constantsAlone 8 b) = false)
    (ha : SE X a pa) (hb : SE X b pb) :
    PS X (.Assign [.Tuple [.Name x px, .Name y py] k tp] (.Tuple [a, b] k2 vp) pos) (tS (kw X W) fun ρ h => (pa.v ρ h).then_ fun x h1 => (pb.v ρ h1).then_ fun y h2 => .nxt ((ρ.set i (some x)).set j (some y)) h2) := by
  refine (ps_par hc hN hi hj hij hx hy (pa_cons ha.v (pa_cons hb.v pa_nil (plain_star hpb _ _)) (plain_star hpa _ _)) (swapped_two hk hx hy hne hl hpa hpb hf hcn)).imp fun D σ H ⟨ρ, h, J, re, rh, q⟩ => ?_
  refine (PostS.step (R1 := rD X.K) (f := pa.v) re rh q).mono fun x H1 ⟨J1, h1, dx, e1, re1, rh1, rx, q1⟩ => ?_
  refine (PostS.step (R1 := rD X.K) (f := pb.v) re1 rh1 q1).mono fun y H2 ⟨J2, h2, dy, e2, re2, rh2, ry, q2⟩ => ?_
  exact ⟨x, y, rfl, q2 J2 H2 _ Ext.refl ((re2.set i (rx.ext e2)).set j ry) rh2⟩

/-! ### stores -/
theorem putD_rel {K : PySem.W.Frag} {J : Jn} {H : Hp} {kvs : List (Key × D)} {kws : List (Key × V)} {k : Key} {d : D} {v : V} (r : Paired (fun p q => p.1 = q.1 ∧ RD K J H p.2 q.2) kvs kws) (rv : RD K J H d v) :
    Paired (fun p q => p.1 = q.1 ∧ RD K J H p.2 q.2) (putD kvs k d) (putK kws k v) := by
  have ha : ∀ {kvs : List (Key × D)} {kws : List (Key × V)}, Paired (fun p q => p.1 = q.1 ∧ RD K J H p.2 q.2) kvs kws → (kvs.any fun kv => decide (kv.1 = k)) = kws.any fun kv => decide (kv.1 = k) := by
    intro kvs kws r
    induction r with
    | nil => rfl
    | cons x t ih => simp only [List.any_cons, ih, x.1]
  have hm : ∀ {kvs : List (Key × D)} {kws : List (Key × V)}, Paired (fun p q => p.1 = q.1 ∧ RD K J H p.2 q.2) kvs kws → Paired (fun p q => p.1 = q.1 ∧ RD K J H p.2 q.2) (kvs.map fun kv => if kv.1 = k then (kv.1, d) else kv) (kws.map fun kv => if kv.1 = k then (kv.1, v) else kv) := by
    intro kvs kws r
    induction r with
    | nil => exact .nil
    | @cons p q ps qs x t ih =>
      refine .cons ?_ ih
      dsimp only
      by_cases hk : p.1 = k
      · rw [if_pos hk, if_pos (x.1 ▸ hk)]; exact ⟨x.1, rv⟩
      · rw [if_neg hk, if_neg (x.1 ▸ hk)]; exact x
  have hap : ∀ {kvs : List (Key × D)} {kws : List (Key × V)}, Paired (fun p q => p.1 = q.1 ∧ RD K J H p.2 q.2) kvs kws → Paired (fun p q => p.1 = q.1 ∧ RD K J H p.2 q.2) (kvs ++ [(k, d)]) (kws ++ [(k, v)]) := by
    intro kvs kws r
    induction r with
    | nil => exact .cons ⟨rfl, rv⟩ .nil
    | cons x t ih => exact .cons x ih
  unfold putD putK
  rw [ha r]
  split
  · exact hm r
  · exact hap r
theorem putK_len {kws : List (Key × V)} {k : Key} {v : V} : (putK kws k v).length ≤ kws.length + 1 := by
  unfold putK
  split
  · rw [List.length_map]; omega
  · rw [List.length_append]; exact Nat.le_refl _
def rSto (K : PySem.W.Frag) : TSet := fun o i v H Q => ∃ J h do_ di dv h', RH K J h H ∧ RD K J H do_ o ∧ RD K J H di i ∧ RD K J H dv v ∧ stoOp do_ di dv h = some h' ∧ ∀ J' H', Ext J H J' H' → RH K J' h' H' → Q H'
theorem ps_stoR (hu : X.A.units + 1 < cLine) : PSet X (rSto X.K) := by
  intro pins s σ H o i v ov iv u Q I ro ri rv ⟨J, h, do_, di, dv, h', rh, r1, r2, r3, e, q⟩
  cases r1 with
  | @ref n a q1 =>
    obtain ⟨ob, w, h1, h2, h3⟩ := rh.at q1
    simp only [stoOp, h1] at e
    cases h3 with
    | @lst ds vs z rr =>
      cases r2 with
      | int k =>
        dsimp only at e
        split at e
        · rename_i j hj
          cases e
          rw [rr.length] at hj
          have r4 : RDs X.K J H (ds.set j dv) (vs.set j v) := rr.set j r3
          exact set_list pins s σ H _ _ v ov iv u Q I ro ri rv ⟨a, vs, k, j, rfl, rfl, h2, hj, q J _ (Ext.write q1) (rh.writeL q1 (by simpa using z) r4)⟩
        · cases e
      | _ => cases e
    | @dct kvs kws z rr =>
      dsimp only at e
      split at e
      · rename_i k hk
        split at e
        · rename_i hz
          cases e
          have hz' : kws.length + 1 ≤ sizeLine := by rw [← Paired.length rr]; exact size_of hz
          have hi := key_inv hk r2
          subst hi
          exact set_dict hu pins s σ H _ _ v ov iv u Q I ro ri rv ⟨a, _, rfl, .k h2 hz', q J _ (Ext.write q1) (rh.write q1 (.dct (Nat.le_trans putK_len hz') (Paired.mapP (putD_rel rr r3) fun p q x => ⟨x.1, x.2.ext (Ext.write q1)⟩)))⟩
        · cases e
      · cases e
  | _ => cases e
theorem ss_sto {o i : Expr} {po pi : P} {sp : Pos} (hu : X.A.units + 200 < cLine) (hn : plainX i = true) (ho : SE X o po) (hi : SE X i pi) (he : SE X e p) :
    PS X (.Assign [.Subscript o i sp] e pos) (tS (kw X W) fun ρ h => (p.v ρ h).then_ fun x h1 => (po.v ρ h1).then_ fun y h2 => (pi.v ρ h2).then_ fun z h3 => match stoOp y z x h3 with
    | some h4 => .nxt ρ h4
    | none => .bad) := by
  refine (ps_asg he.v (pg_sub ho.v hi.v (ps_stoR (by omega)) ?_) ?_).imp fun D σ H ⟨ρ, h, J, re, rh, q⟩ => ?_
  · intro v; cases i <;> first | rfl | cases hn
  · cases e <;> rfl
  refine (PostS.step (R1 := rD X.K) (f := p.v) re rh q).mono fun x H1 ⟨J1, h1, dx, e1, re1, rh1, rx, q1⟩ => ?_
  refine (PostS.step (R1 := rD X.K) (f := po.v) re1 rh1 q1).mono fun y H2 ⟨J2, h2, dy, e2, re2, rh2, ry, q2⟩ => ?_
  refine (PostS.step (R1 := rD X.K) (f := pi.v) re2 rh2 q2).mono fun z H3 ⟨J3, h3, dz, e3, re3, rh3, rz, q3⟩ => ?_
  cases hs : stoOp dy dz dx h3 with
  | none => rw [hs] at q3; exact False.elim q3
  | some h4 =>
    rw [hs] at q3
    exact ⟨J3, h3, dy, dz, dx, h4, rh3, ry.ext e3, rz, (rx.ext e2).ext e3, hs, fun J4 H4 e4 rh4 => q3 J4 H4 σ e4 (re3.ext e4) rh4⟩
def rAug (K : PySem.W.Frag) (o : BOp) : TIp := fun x y H Q => ∃ J dx dy d, RD K J H dx x ∧ RD K J H dy y ∧ augOp o dx dy = some d ∧ ∀ v, RD K J H d v → Q v H
def augM : BOp → Operator → Bool
  | .add, .Add => true
  | .sub, .Sub => true
  | .fdiv, .FloorDiv => true
  | .mod, .Mod => true
  | _, _ => false
theorem augM_ok {o : BOp} {op : Operator} (h : augM o op = true) : PIp X op (rAug X.K o) := by
  unfold augM at h
  split at h
  · intro pins s σ H x y v u Q I rx ry ⟨J, dx, dy, d, r1, r2, e, q⟩
    simp only [augOp] at e
    split at e
    · cases e; cases r1; cases r2
      exact iop_add pins s σ H _ _ v u Q I rx ry ⟨_, _, rfl, rfl, q _ (.int _)⟩
    · cases r1; cases r2
      split at e
      · rename_i hz; cases e
        exact iop_add_str pins s σ H _ _ v u Q I rx ry ⟨_, _, rfl, rfl, size_of hz, q _ (.str _)⟩
      · cases e
    · cases e
  · intro pins s σ H x y v u Q I rx ry ⟨J, dx, dy, d, r1, r2, e, q⟩
    simp only [augOp] at e
    split at e
    · cases e; cases r1; cases r2
      exact iop_sub pins s σ H _ _ v u Q I rx ry ⟨_, _, rfl, rfl, q _ (.int _)⟩
    · cases e
  · intro pins s σ H x y v u Q I rx ry ⟨J, dx, dy, d, r1, r2, e, q⟩
    simp only [augOp] at e
    split at e
    · cases r1; cases r2
      split at e
      · rename_i hz; cases e
        exact iop_fdiv pins s σ H _ _ v u Q I rx ry ⟨_, _, rfl, rfl, hz, q _ (.int _)⟩
      · cases e
    · cases e
  · intro pins s σ H x y v u Q I rx ry ⟨J, dx, dy, d, r1, r2, e, q⟩
    simp only [augOp] at e
    split at e
    · cases r1; cases r2
      split at e
      · rename_i hz; cases e
        exact iop_mod pins s σ H _ _ v u Q I rx ry ⟨_, _, rfl, rfl, hz, q _ (.int _)⟩
      · cases e
    · cases e
  · cases h
theorem ss_aug {i : Nat} {y : Str} {o : BOp} {op : Operator} (hN : X.N.Nodup) (hi : X.N[i]? = some y) (hx : L2.Loc X.env.scope y) (hf : X.fn y = true ∨ X.env.scope.names.lookup y = some .local) (ho : augM o op = true) (he : SE X e p) :
    PS X (.AugAssign (.Name y pos') op e pos) (tS (kw X W) fun ρ h => match ρ[i]? with
    | some (some x) => (p.v ρ h).then_ fun y h1 => match augOp o x y with
      | some z => .nxt (ρ.set i (some z)) h1
      | none => .bad
    | _ => .bad) := by
  refine (ps_aug hN hi hx he.v (augM_ok ho) hf).imp fun D σ H ⟨ρ, h, J, re, rh, q⟩ => ?_
  dsimp only at q
  cases e0 : ρ[i]? with
  | none => rw [e0] at q; exact False.elim q
  | some od =>
    cases od with
    | none => rw [e0] at q; exact False.elim q
    | some d =>
      rw [e0] at q
      obtain ⟨v, hv, rd⟩ := re.get i d e0
      refine ⟨v, hv, ?_⟩
      refine (PostS.step (R1 := rD X.K) (f := p.v) re rh q).mono fun x H1 ⟨J1, h1, dx, e1, re1, rh1, rx, q1⟩ => ?_
      cases ha : augOp o d dx with
      | none => rw [ha] at q1; exact False.elim q1
      | some z =>
        rw [ha] at q1
        exact ⟨J1, d, dx, z, rd.ext e1, rx, ha, fun w rw' => q1 J1 H1 _ Ext.refl (re1.set i rw') rh1⟩
/-- name = [..] -/
theorem ss_asgLc {i : Nat} {y : Str} {py sp : Pos} {elt tg iter : Expr} {ifs : List Expr} {scope : Scope} {own : List (Str × Nat)} {t : Tg} {f : Env → Hh → R Src} {v' : Env → Hh → R D} (hc : X.calm = true) (hN : X.N.Nodup) (hy : X.N[i]? = some y) (hyl : X.env.scope.names.lookup y = some .local)
    (hk : X.env.scope.kind = .function) (hl : (py.line == pos.line) = true) (hsh : (scope.names.any fun (n, k) => n == y && (k == .local || k == .cell)) = false) (hi : PI X tg iter (tI X.K f)) (ok : BlkOk X.N X.env.scope scope own) (hown : own.map (·.2) = t.slots)
    (hg : ∀ (s : Shared) (H : Hp) (C : Addr) (cl : List (Str × Addr)) (fp : List Addr), ST (X.blk s H scope (compEnvC scope cl C X.env) fp) tg t t.slots)
    (ht : ∀ (s : Shared) (H : Hp) (C : Addr) (cl : List (Str × Addr)) (fp : List Addr), PTs (X.blk s H scope (compEnvC scope cl C X.env) fp) ifs (tG X.K rB pc.t))
    (he : ∀ (s : Shared) (H : Hp) (C : Addr) (cl : List (Str × Addr)) (fp : List Addr), PE (X.blk s H scope (compEnvC scope cl C X.env) fp) elt (tG X.K (rD X.K) p.v)) (hs : ∀ x, foldedSetIterable iter X.env x = pure x)
    (hv : ∀ {σ : L2.St} {H : Hp} {Q : VK}, tG X.K (rD X.K) v' σ H Q → tF X.K (fun ρ h => (f ρ h).bind fun s h1 => if sizeOk s.items.length then lcLoop s.good (lcTurn t pc p ρ) s.items [] h1 else .bad) σ H Q) :
    PS X (.Assign [.Name y py] (.ListComp elt [⟨tg, iter, ifs, 0⟩] scope pos) sp) (tS (kw X W) fun ρ h => (v' ρ h).then_ fun x h1 => .nxt (ρ.set i (some x)) h1) := by
  refine (ps_setLc (g := gD X.K t t.slots) (tt := tG X.K rB pc.t) (te := tG X.K (rD X.K) p.v) hc hN hy hyl (sw_true hk hyl hl hsh) hi ok (fun s H C cl fp => (hg s H C cl fp).run) ht he hs).imp fun D σ H ⟨ρ, h, J, re, rh, q⟩ => ?_
  rw [hown]
  refine lc_read (hv ?_)
  exact (PostS.step (R1 := rD X.K) (f := v') re rh q).mono fun x H1 ⟨J1, h1, dx, e1, re1, rh1, rx, q1⟩ => q1 J1 H1 _ Ext.refl (re1.set i rx) rh1
end
end PV
end

section
set_option maxRecDepth 100000
namespace PV
open L2 PySem PySem.Spec PyProof.Rows

/-! ### the statements' forms -/
def stAsg : Stmt → Option (Str × Expr)
  | .Assign [.Name y _] e _ => some (y, e)
  | _ => none
def stAsgLc : Stmt → Option (Str × Expr × Expr × Expr × List Expr × Scope)
  | .Assign [.Name y py] (.ListComp elt [⟨tg, iter, ifs, a⟩] scope pos) _ => if a = 0 ∧ (py.line == pos.line) = true then some (y, elt, tg, iter, ifs, scope) else none
  | _ => none
def stPar : Stmt → Option (Str × Str × Expr × Expr)
  | .Assign [.Tuple [.Name x px, .Name y py] _ _] (.Tuple [a, b] _ _) _ => if (py.line == px.line) = true then some (x, y, a, b) else none
  | _ => none
def stUnp : Stmt → Option (List Expr × Expr)
  | .Assign [.Tuple es _ _] e _ => some (es, e)
  | _ => none
def stSto : Stmt → Option (Expr × Expr × Expr)
  | .Assign [.Subscript o i _] e _ => some (o, i, e)
  | _ => none
def stAug : Stmt → Option (Str × Operator × Expr)
  | .AugAssign (.Name y _) op e _ => some (y, op, e)
  | _ => none
def stExp : Stmt → Option Expr
  | .Expr e _ => some e
  | _ => none
def stRet : Stmt → Option Expr
  | .Return (some e) _ => some e
  | _ => none
def stRetN : Stmt → Bool
  | .Return none _ => true
  | _ => false
def stIf : Stmt → Option (Expr × List Stmt × List Stmt)
  | .If c a b _ => some (c, a, b)
  | _ => none
def stWhl : Stmt → Option (Expr × List Stmt)
  | .While c a [] _ => some (c, a)
  | _ => none
def stFor : Stmt → Option (Expr × Expr × List Stmt)
  | .For t i a [] _ => some (t, i, a)
  | _ => none
def stPass : Stmt → Bool
  | .Pass _ => true
  | _ => false
def stBrk : Stmt → Bool
  | .Break _ => true
  | _ => false
def stCnt : Stmt → Bool
  | .Continue _ => true
  | _ => false
section
variable {s : Stmt}
theorem stAsg_eq {y : Str} {e : Expr} (h : stAsg s = some (y, e)) : ∃ p q, s = .Assign [.Name y p] e q := by
  unfold stAsg at h; split at h
  · cases h; exact ⟨_, _, rfl⟩
  · cases h
theorem stAsgLc_eq {y : Str} {elt tg iter : Expr} {ifs : List Expr} {scope : Scope} (h : stAsgLc s = some (y, elt, tg, iter, ifs, scope)) : ∃ py pos q, s = .Assign [.Name y py] (.ListComp elt [⟨tg, iter, ifs, 0⟩] scope pos) q ∧ (py.line == pos.line) = true := by
  unfold stAsgLc at h; split at h
  · split at h
    · rename_i hc; cases h; obtain ⟨rfl, hl⟩ := hc; exact ⟨_, _, _, rfl, hl⟩
    · cases h
  · cases h
theorem stPar_eq {x y : Str} {a b : Expr} (h : stPar s = some (x, y, a, b)) : ∃ px py k tp k2 vp q, s = .Assign [.Tuple [.Name x px, .Name y py] k tp] (.Tuple [a, b] k2 vp) q ∧ (py.line == px.line) = true := by
  unfold stPar at h; split at h
  · split at h
    · rename_i hc; cases h; exact ⟨_, _, _, _, _, _, _, rfl, hc⟩
    · cases h
  · cases h
theorem stUnp_eq {es : List Expr} {e : Expr} (h : stUnp s = some (es, e)) : ∃ k tp q, s = .Assign [.Tuple es k tp] e q := by
  unfold stUnp at h; split at h
  · cases h; exact ⟨_, _, _, rfl⟩
  · cases h
theorem stSto_eq {o i e : Expr} (h : stSto s = some (o, i, e)) : ∃ p q, s = .Assign [.Subscript o i p] e q := by
  unfold stSto at h; split at h
  · cases h; exact ⟨_, _, rfl⟩
  · cases h
theorem stAug_eq {y : Str} {op : Operator} {e : Expr} (h : stAug s = some (y, op, e)) : ∃ p q, s = .AugAssign (.Name y p) op e q := by
  unfold stAug at h; split at h
  · cases h; exact ⟨_, _, rfl⟩
  · cases h
theorem stExp_eq {e : Expr} (h : stExp s = some e) : ∃ q, s = .Expr e q := by
  unfold stExp at h; split at h
  · cases h; exact ⟨_, rfl⟩
  · cases h
theorem stRet_eq {e : Expr} (h : stRet s = some e) : ∃ q, s = .Return (some e) q := by
  unfold stRet at h; split at h
  · cases h; exact ⟨_, rfl⟩
  · cases h
theorem stRetN_eq (h : stRetN s = true) : ∃ q, s = .Return none q := by
  unfold stRetN at h; split at h
  · exact ⟨_, rfl⟩
  · cases h
theorem stIf_eq {c : Expr} {a b : List Stmt} (h : stIf s = some (c, a, b)) : ∃ q, s = .If c a b q := by
  unfold stIf at h; split at h
  · cases h; exact ⟨_, rfl⟩
  · cases h
theorem stWhl_eq {c : Expr} {a : List Stmt} (h : stWhl s = some (c, a)) : ∃ q, s = .While c a [] q := by
  unfold stWhl at h; split at h
  · cases h; exact ⟨_, rfl⟩
  · cases h
theorem stFor_eq {t i : Expr} {a : List Stmt} (h : stFor s = some (t, i, a)) : ∃ q, s = .For t i a [] q := by
  unfold stFor at h; split at h
  · cases h; exact ⟨_, rfl⟩
  · cases h
theorem stPass_eq (h : stPass s = true) : ∃ q, s = .Pass q := by
  unfold stPass at h; split at h
  · exact ⟨_, rfl⟩
  · cases h
theorem stBrk_eq (h : stBrk s = true) : ∃ q, s = .Break q := by
  unfold stBrk at h; split at h
  · exact ⟨_, rfl⟩
  · cases h
theorem stCnt_eq (h : stCnt s = true) : ∃ q, s = .Continue q := by
  unfold stCnt at h; split at h
  · exact ⟨_, rfl⟩
  · cases h
end
def Cs.lcl (c : Cs) (x : Str) : Bool := decide (c.sc.names.lookup x = some .local)
def Cs.cel (c : Cs) (x : Str) : Bool := decide (c.sc.names.lookup x = some .cell)
def celTwo (c : Cs) (es : List Expr) : Bool := es.any fun e => match asName e with
  | some x => c.cel x
  | none => false
theorem celTwo_ok {c : Cs} {es : List Expr} {e : Expr} {k : Nat} {tp : Pos} {env : PySem.Env} (hs : env.scope = c.sc) (h : celTwo c es = true) : swappedStores [.Tuple es k tp] e env = pure none := by
  obtain ⟨y, hy, hc⟩ := List.any_eq_true.mp h
  split at hc
  · rename_i x hx
    obtain ⟨p, rfl⟩ := asName_eq hx
    exact swapped_cel ⟨_, hy, x, p, rfl, by rw [hs]; exact of_decide_eq_true hc⟩
  · cases hc
def Cs.isF (c : Cs) : Bool := decide (c.sc.kind = .function)
/-- a list comprehension that is bound to a name -/
def mLc (c : Cs) (y : Str) (elt tg iter : Expr) (ifs : List Expr) (scope : Scope) : E → Bool
  | .lc t it d e => blkC c.N c.sc scope (c.own t) && mI c it tg iter && plainX iter && mT (c.blk scope) t tg && mE (c.blk scope) e elt && (match ifs with
      | [] => d.isMiss
      | [i] => mE (c.blk scope) d i
      | _ => false) && c.isF && c.lcl y && !(scope.names.any fun (n, k) => n == y && (k == .local || k == .cell))
  | _ => false
def E.body : E → E
  | .new e => e
  | e => e
def stRaise : Stmt → Option Str
  | .Raise (some (.Call (.Name x _) [.Constant (.str _) _ _] [] _)) none _ => some x
  | _ => none
theorem stRaise_eq {s : Stmt} {x : Str} (h : stRaise s = some x) : ∃ p m j p2 p3 p4, s = .Raise (some (.Call (.Name x p) [.Constant (.str m) j p2] [] p3)) none p4 := by
  unfold stRaise at h; split at h
  · cases h; exact ⟨_, _, _, _, _, _, rfl⟩
  · cases h
def stTry : Stmt → Option (List Stmt × Str × List Stmt)
  | .Try body [.ExceptHandler (some (.Name x _)) none (b :: suite) _] [] [] _ => some (body, x, b :: suite)
  | _ => none
theorem stTry_eq {s : Stmt} {body suite : List Stmt} {x : Str} (h : stTry s = some (body, x, suite)) : ∃ p b sr p2 p3, suite = b :: sr ∧ s = .Try body [.ExceptHandler (some (.Name x p)) none (b :: sr) p2] [] [] p3 := by
  unfold stTry at h; split at h
  · cases h; exact ⟨_, _, _, _, _, rfl, rfl⟩
  · cases h
def mSuE (c : Cs) : E → Expr → Bool
  | .con d, x => match asCon x with | some k => conM d k | none => false
  | .var i, x => match asName x with | some y => c.vis i y | none => false
  | _, _ => false
def mSu1 (c : Cs) : S → Stmt → Bool
  | .asg i e, s => match stAsg s with
    | some (y, x) => c.loc i y && mSuE c e x
    | none => false
  | .ret e, s => match stRet s with
    | some x => mSuE c e x
    | none => false
  | .pass, s => stPass s
  | _, _ => false
def mSu (c : Cs) : Ss → List Stmt → Bool
  | .nil, [] => true
  | .cons s ss, st :: sts => mSu1 c s st && mSu c ss sts
  | _, _ => false
mutual
def mS (c : Cs) : S → Stmt → Bool
  | .asg i e, s => match stAsg s with
    | some (y, x) => c.loc i y && mayAsg (c.cel y) x && mE c e x
    | none => false
  | .asgLc i e, s => match stAsgLc s with
    | some (y, elt, tg, iter, ifs, scope) => decide (c.N[i]? = some y) && mLc c y elt tg iter ifs scope e.body
    | none => false
  | .par i j a b, s => match stPar s with
    | some (x, y, ea, eb) => decide (c.N[i]? = some x) && decide (c.N[j]? = some y) && decide (i ≠ j) && c.isF && c.lcl x && c.lcl y && decide (x ≠ y) && plainX ea && plainX eb && !(foldedForSure 8 ea && foldedForSure 8 eb) && !(constantsAlone 8 ea && constantsAlone 8 eb) && mE c a ea && mE c b eb
    | none => false
  | .unp is e, s => match stUnp s with
    | some (es, x) => mVs c is es && notComp x && ((asTup x).isNone || celTwo c es) && mE c e x
    | none => false
  | .sto o i e, s => match stSto s with
    | some (eo, ei, x) => plainX ei && mE c o eo && mE c i ei && mE c e x
    | none => false
  | .aug i o e, s => match stAug s with
    | some (y, op, x) => c.loc i y && augM o op && mE c e x
    | none => false
  | .augL _ _, _ => false
  | .exp e, s => match stExp s with
    | some x => notComp x && mE c e x
    | none => false
  | .ret e, s => match stRet s with
    | some x => mE c e x
    | none => false
  | .retN, s => stRetN s
  | .ite t a b, s => match stIf s with
    | some (x, as, bs) => mE c t x && mSs c a as && mSs c b bs
    | none => false
  | .whl t b, s => match stWhl s with
    | some (x, bs) => mE c t x && mSs c b bs
    | none => false
  | .for_ t it b, s => match stFor s with
    | some (tg, x, bs) => mT c t tg && mI c it tg x && plainX x && mSs c b bs
    | none => false
  | .pass, s => stPass s
  | .brk, s => stBrk s
  | .cnt, s => stCnt s
  | .gc _ b, s => mS c b s
  | .asgC i f es, s => match stAsg s with
    | some (y, x) => c.loc i y && mE c (.call f es) x
    | none => false
  | .expC f es, s => match stExp s with
    | some x => mE c (.call f es) x
    | none => false
  | .retC f es, s => match stRet s with
    | some x => mE c (.call f es) x
    | none => false
  | .raise_ k, s => match stRaise s with
    | some y => decide (y = k) && decide (k ∈ c.xs) && c.glb k
    | none => false
  | .try_ b k yes no su, s => match stTry s with
    | some (body, y, suite) => decide (y = k) && decide (k ∈ c.xs) && c.glb k && mSs c b body && mSu c su suite && (yes.all fun x => decide ((x, k, true) ∈ c.xm)) && (no.all fun x => decide ((x, k, false) ∈ c.xm))
    | none => false
def mSs (c : Cs) : Ss → List Stmt → Bool
  | .nil, [] => true
  | .cons s ss, st :: sts => mS c s st && mSs c ss sts
  | _, _ => false
end
structure OkS (c : Cs) (F : Fns) (G : List D) (X : Cx) (W : WX) : Prop extends Ok c F G X where
  pass : PassesOwn (model X.prog X.w) X.A X.env X.xe
  takes : Takes X W
  stk : X.stack = X.env :: X.outer
  frm : X.env.frame = some X.env.locals
section
variable {c : Cs} {F : Fns} {G : List D} {X : Cx} {W : WX}
theorem lcl_ok (o : Ok c F G X) {x : Str} (h : c.lcl x = true) : X.env.scope.names.lookup x = some .local := by rw [o.sc]; exact of_decide_eq_true h
theorem isF_ok (o : Ok c F G X) (h : c.isF = true) : X.env.scope.kind = .function := by rw [o.sc]; exact of_decide_eq_true h
theorem ss_lc {i : Nat} {y : Str} {py pos sp : Pos} {elt tg iter : Expr} {ifs : List Expr} {scope : Scope} (o : Ok c F G X) : ∀ (e : E) {v' : Env → Hh → R D}, decide (c.N[i]? = some y) = true → mLc c y elt tg iter ifs scope e = true → (py.line == pos.line) = true →
    (∀ {σ : L2.St} {H : Hp} {Q : VK}, tG X.K (rD X.K) v' σ H Q → tF X.K (evE F G e).v σ H Q) →
    PS X (.Assign [.Name y py] (.ListComp elt [⟨tg, iter, ifs, 0⟩] scope pos) sp) (tS (kw X W) fun ρ h => (v' ρ h).then_ fun x h1 => .nxt (ρ.set i (some x)) h1)
  | .lc t it d e, v', hn, h, hl, hv => by
    simp only [mLc, Bool.and_eq_true, Bool.not_eq_true'] at h
    (obtain ⟨⟨⟨⟨⟨⟨⟨⟨h1, h2⟩, h3⟩, h4⟩, h5⟩, h6⟩, h7⟩, h8⟩, h9⟩ := h)
    refine ss_asgLc (pc := evE F G d) (p := evE F G e) o.calm o.nd (by rw [o.hN]; exact of_decide_eq_true hn) (lcl_ok o h8) (isF_ok o h7) hl h9 (sI it o _ _ h2) (blkOk_by (by rw [o.hN, o.sc]; exact h1)) (own_snd t) (fun s H C cl fp => st_ok o.blk h4) (fun s H C cl fp => ?_) (fun s H C cl fp => (sE e o.blk _ h5).v) (plain_fold h3 _) hv
    split at h6
    · cases d with
      | miss => exact ⟨fun pins s σ H Q I ⟨ρ, h, J, re, rh, q⟩ => pts_nil.run pins s σ H Q I (q J H true Ext.refl rh rfl)⟩
      | _ => cases h6
    · exact pts_one (sE d o.blk _ h6).t
    · cases h6
  | .var _, _, _, h, _, _ => by cases h
  | .con _, _, _, h, _, _ => by cases h
  | .glo _, _, _, h, _, _ => by cases h
  | .miss, _, _, h, _, _ => by cases h
  | .tup _, _, _, h, _, _ => by cases h
  | .ftup _, _, _, h, _, _ => by cases h
  | .lst _, _, _, h, _, _ => by cases h
  | .new _, _, _, h, _, _ => by cases h
  | .dic0, _, _, h, _, _ => by cases h
  | .bin _ _ _, _, _, h, _, _ => by cases h
  | .neg _, _, _, h, _, _ => by cases h
  | .cmp _ _ _, _, _, h, _, _ => by cases h
  | .chain _ _ _ _ _, _, _, h, _, _ => by cases h
  | .and _ _, _, _, h, _, _ => by cases h
  | .or _ _, _, _, h, _, _ => by cases h
  | .not _, _, _, h, _, _ => by cases h
  | .ite _ _ _, _, _, h, _, _ => by cases h
  | .idx _ _, _, _, h, _, _ => by cases h
  | .slc _ _ _, _, _, h, _, _ => by cases h
  | .call _ _, _, _, h, _, _ => by cases h
  | .callK _ _ _ _, _, _, h, _, _ => by cases h
  | .isi _ _, _, _, h, _, _ => by cases h
  | .tenum _, _, _, h, _, _ => by cases h
  | .sset _, _, _, h, _, _ => by cases h
  | .mth _ _ _, _, _, h, _, _ => by cases h
  | .bf _ _, _, _, h, _, _ => by cases h
theorem lc_lst2 : ∀ (e : E) {y : Str} {elt tg iter : Expr} {ifs : List Expr} {scope : Scope}, mLc c y elt tg iter ifs scope e = true → ∀ ρ h d h', (evE F G e).v ρ h = .ok d h' → ∃ ds, d = .lst ds := by
  intro e y elt tg iter ifs scope h
  cases e with
  | lc t it d e => exact fun ρ h d h' ev => lc_lst _ _ _ _ ev
  | _ => cases h
theorem tCX_mono {F : Fns} {f n : Nat} {l : Env → Hh → R (List D)} {σ : L2.St} {H : Hp} {Q Q' : VK} (t : tCX X W F f n l σ H Q) (m : ∀ v H1, Q v H1 → Q' v H1) : tCX X W F f n l σ H Q' :=
  tG.mono t fun vs H1 ⟨J1, h1, ds, rh1, rs, hl, p⟩ => ⟨J1, h1, ds, rh1, rs, hl, by
    cases e : F f ds h1 with
    | ok d h2 => rw [e] at p; exact fun J2 H2 b e2 rh2 rd => m _ _ (p J2 H2 b e2 rh2 rd)
    | err x h2 => rw [e] at p; exact p
    | bad => rw [e] at p; exact p⟩
theorem mCall_ok {f : Nat} {es : Es} {x : Expr} (h : mE c (.call f es) x = true) : ∃ fn y xs p q, x = .Call (.Name y p) xs [] q ∧ c.T[f]? = some fn ∧ fn.name = y ∧ c.glb y = true ∧ plainXs xs = true ∧ mEs c es xs = true ∧ xs.length = fn.P.length := by
  simp only [mE] at h
  split at h
  · rename_i y xs hy
    obtain ⟨p, q, rfl⟩ := asCall_eq hy
    split at h
    · rename_i fn hf
      (simp only [Bool.and_eq_true, decide_eq_true_eq] at h)
      obtain ⟨⟨⟨⟨h1, h2⟩, h3⟩, h4⟩, h5⟩ := h
      exact ⟨fn, y, xs, p, q, rfl, hf, h1, h3, h4, h5, h2.symm⟩
    · cases h
  · cases h
/-! a suite's statements: no call, no raise -/
theorem se_varF {i : Nat} {y : Str} {pos : Pos} (h1 : X.N[i]? = some y) (h2 : Vis X.env.scope y) (h3 : (y == ("__debug__" : Str)) = false) (h4 : (y == ("__classdict__" : Str)) = false) : SE X (.Name y pos) (evE F G (.var i)) := by
  refine SE.plain ((pe_var h1 h2 h3 h4).imp fun σ H Q ⟨ρ, hh, J, re, rh, q⟩ => ?_) (fun _ => rfl)
  cases e : ρ[i]? with
  | none => simp only [e] at q; exact False.elim q
  | some od =>
    cases od with
    | none => simp only [e] at q; exact False.elim q
    | some d =>
      simp only [e] at q
      obtain ⟨v, hv, rd⟩ := re.get i d e
      exact ⟨v, hv, q J H v Ext.refl rh rd⟩
theorem sSuE {a : Addr} {pn : List (Addr × Obj)} (o : Ok c F G X) : ∀ (e : E) (x : Expr), mSuE c e x = true → SE (X.suite a pn) x (evE F G e) ∧ notComp x = true
  | .con d, x, h => by
    simp only [mSuE] at h
    split at h
    · rename_i k hy
      obtain ⟨n, p, rfl⟩ := asCon_eq hy
      exact ⟨se_con h, rfl⟩
    · cases h
  | .var i, x, h => by
    simp only [mSuE] at h
    split at h
    · rename_i y hy
      obtain ⟨p, rfl⟩ := asName_eq hy
      obtain ⟨h1, h2, h3, h4⟩ := vis_ok o h
      exact ⟨se_varF (X := X.suite a pn) h1 h2 h3 h4, rfl⟩
    · cases h
  | .glo _, _, h => by cases h
  | .miss, _, h => by cases h
  | .tup _, _, h => by cases h
  | .ftup _, _, h => by cases h
  | .lst _, _, h => by cases h
  | .new _, _, h => by cases h
  | .dic0, _, h => by cases h
  | .bin _ _ _, _, h => by cases h
  | .neg _, _, h => by cases h
  | .cmp _ _ _, _, h => by cases h
  | .chain _ _ _ _ _, _, h => by cases h
  | .and _ _, _, h => by cases h
  | .or _ _, _, h => by cases h
  | .not _, _, h => by cases h
  | .ite _ _ _, _, h => by cases h
  | .idx _ _, _, h => by cases h
  | .slc _ _ _, _, h => by cases h
  | .call _ _, _, h => by cases h
  | .callK _ _ _ _, _, h => by cases h
  | .isi _ _, _, h => by cases h
  | .tenum _, _, h => by cases h
  | .sset _, _, h => by cases h
  | .mth _ _ _, _, h => by cases h
  | .bf _ _, _, h => by cases h
  | .lc _ _ _ _, _, h => by cases h
theorem sSu1 {a : Addr} {pn : List (Addr × Obj)} (o : Ok c F G X) (s : S) (x : Stmt) (h : mSu1 c s x = true) : PS (X.suite a pn) x (tS (kw (X.suite a pn) W) (evS F G s)) := by
  cases s with
  | asg i e =>
    simp only [mSu1] at h
    split at h
    · rename_i y z hy
      obtain ⟨p, q, rfl⟩ := stAsg_eq hy
      (simp only [Bool.and_eq_true] at h)
      obtain ⟨h1, h2, h3⟩ := loc_ok o h.1
      obtain ⟨se, nc⟩ := sSuE (a := a) (pn := pn) o e z h.2
      exact ss_asg (X := X.suite a pn) (c := false) o.nd h1 h2 h3 (fun z => by cases z) (by cases z <;> first | exact nc | rfl) se
    · cases h
  | ret e =>
    simp only [mSu1] at h
    split at h
    · rename_i z hy
      obtain ⟨q, rfl⟩ := stRet_eq hy
      exact ss_ret (sSuE (a := a) (pn := pn) o e z h).1
    · cases h
  | pass => obtain ⟨q, rfl⟩ := stPass_eq h; exact ss_pass
  | _ => cases h
theorem sSu {a : Addr} {pn : List (Addr × Obj)} (o : Ok c F G X) : ∀ (s : Ss) (xs : List Stmt), mSu c s xs = true → PSs (X.suite a pn) xs (tS (kw (X.suite a pn) W) (evSs F G s))
  | .nil, [], _ => ss_nil
  | .nil, _ :: _, h => by cases h
  | .cons _ _, [], h => by cases h
  | .cons s ss, x :: xs, h => by
    simp only [mSu, Bool.and_eq_true] at h
    exact ss_cons (sSu1 o s x h.1) (sSu o ss xs h.2)
theorem PostS.ext' {κ : KW} {J J' : Jn} {H H' : Hp} {h h' : Hh} {D : Ends} {r : RS} (rh : RH κ.K J h H) (rh' : RH κ.K J' h' H') (e : Ext J H J' H') (p : PostS κ J H r D) : PostS κ J' H' r D := PostS.ext rh rh' e p
mutual
theorem sS : ∀ (t : S) {X : Cx} {W : WX} (o : OkS c F G X W) (x : Stmt), mS c t x = true → PS X x (tS (kw X W) (evS F G t))
  | .asg i e, X, W, o, x, h => by
    simp only [mS] at h
    split at h
    · rename_i y z hy
      obtain ⟨p, q, rfl⟩ := stAsg_eq hy
      (simp only [Bool.and_eq_true] at h)
      obtain ⟨h1, h2, h3⟩ := loc_ok o.toOk h.1.1
      exact ss_asg o.nd h1 h2 h3 (fun q => by rw [o.sc]; exact of_decide_eq_true q) h.1.2 (sE e o.toOk _ h.2)
    · cases h
  | .asgLc i e, X, W, o, x, h => by
    simp only [mS] at h
    split at h
    · rename_i y elt tg iter ifs scope hy
      obtain ⟨py, pos, q, rfl, hl⟩ := stAsgLc_eq hy
      (simp only [Bool.and_eq_true] at h)
      cases e with
      | new e => exact ss_lc o.toOk e h.1 h.2 hl fun t => tF_new t
      | lc t it d e => exact ss_lc o.toOk (.lc t it d e) h.1 h.2 hl fun t => tF_of (lc_lst2 _ h.2) t
      | _ => cases h.2
    · cases h
  | .par i j a b, X, W, o, x, h => by
    simp only [mS] at h
    split at h
    · rename_i x y ea eb hy
      obtain ⟨px, py, k, tp, k2, vp, q, rfl, hl⟩ := stPar_eq hy
      simp only [Bool.and_eq_true, decide_eq_true_eq, Bool.not_eq_true'] at h
      obtain ⟨⟨⟨⟨⟨⟨⟨⟨⟨⟨⟨⟨h1, h2⟩, h3⟩, h4⟩, h5⟩, h6⟩, h7⟩, h8⟩, h9⟩, h10⟩, h11⟩, h12⟩, h13⟩ := h
      exact ss_par o.calm o.nd (by rw [o.hN]; exact h1) (by rw [o.hN]; exact h2) h3 (isF_ok o.toOk h4) (lcl_ok o.toOk h5) (lcl_ok o.toOk h6) h7 hl h8 h9 h10 h11 (sE a o.toOk _ h12) (sE b o.toOk _ h13)
    · cases h
  | .unp is e, X, W, o, x, h => by
    simp only [mS] at h
    split at h
    · rename_i es z hy
      obtain ⟨k, tp, q, rfl⟩ := stUnp_eq hy
      simp only [Bool.and_eq_true, Bool.or_eq_true, Option.isNone_iff_eq_none] at h
      exact ss_unp o.calm (svs_ok o.toOk h.1.1.1) h.1.1.2 (h.1.2.elim (fun t => swapped_no t) fun t => celTwo_ok o.sc t) (sE e o.toOk _ h.2)
    · cases h
  | .sto a i e, X, W, o, x, h => by
    simp only [mS] at h
    split at h
    · rename_i ea ei z hy
      obtain ⟨p, q, rfl⟩ := stSto_eq hy
      (simp only [Bool.and_eq_true] at h)
      exact ss_sto o.units h.1.1.1 (sE a o.toOk _ h.1.1.2) (sE i o.toOk _ h.1.2) (sE e o.toOk _ h.2)
    · cases h
  | .aug i op e, X, W, o, x, h => by
    simp only [mS] at h
    split at h
    · rename_i y p z hy
      obtain ⟨q, r, rfl⟩ := stAug_eq hy
      (simp only [Bool.and_eq_true] at h)
      obtain ⟨h1, h2, h3⟩ := loc_ok o.toOk h.1.1
      exact ss_aug o.nd h1 h2 h3 h.1.2 (sE e o.toOk _ h.2)
    · cases h
  | .augL _ _, X, W, o, x, h => by cases h
  | .exp e, X, W, o, x, h => by
    simp only [mS] at h
    split at h
    · rename_i z hy
      obtain ⟨q, rfl⟩ := stExp_eq hy
      (simp only [Bool.and_eq_true] at h)
      exact ss_exp h.1 (sE e o.toOk _ h.2)
    · cases h
  | .ret e, X, W, o, x, h => by
    simp only [mS] at h
    split at h
    · rename_i z hy
      obtain ⟨q, rfl⟩ := stRet_eq hy
      exact ss_ret (sE e o.toOk _ h)
    · cases h
  | .retN, X, W, o, x, h => by obtain ⟨q, rfl⟩ := stRetN_eq h; exact ss_retN
  | .ite t a b, X, W, o, x, h => by
    simp only [mS] at h
    split at h
    · rename_i z as bs hy
      obtain ⟨q, rfl⟩ := stIf_eq hy
      (simp only [Bool.and_eq_true] at h)
      exact ss_if (sE t o.toOk _ h.1.1) (sSs a o _ h.1.2) (sSs b o _ h.2)
    · cases h
  | .whl t b, X, W, o, x, h => by
    simp only [mS] at h
    split at h
    · rename_i z bs hy
      obtain ⟨q, rfl⟩ := stWhl_eq hy
      (simp only [Bool.and_eq_true] at h)
      exact ss_whl o.pass (sE t o.toOk _ h.1) (sSs b o _ h.2)
    · cases h
  | .for_ t it b, X, W, o, x, h => by
    simp only [mS] at h
    split at h
    · rename_i tg z bs hy
      obtain ⟨q, rfl⟩ := stFor_eq hy
      (simp only [Bool.and_eq_true] at h)
      exact ss_for o.pass o.calm (sI it o.toOk _ _ h.1.1.2) (st_ok o.toOk h.1.1.1) (sSs b o _ h.2) h.1.2
    · cases h
  | .pass, X, W, o, x, h => by obtain ⟨q, rfl⟩ := stPass_eq h; exact ss_pass
  | .brk, X, W, o, x, h => by obtain ⟨q, rfl⟩ := stBrk_eq h; exact ss_brk
  | .cnt, X, W, o, x, h => by obtain ⟨q, rfl⟩ := stCnt_eq h; exact ss_cnt
  | .gc ks b, X, W, o, x, h => (sS b o x h).imp fun D σ H ⟨ρ, h, J, re, rh, q⟩ => ⟨ρ, h, J, re, rh, q.gc rh⟩
  | .asgC i f es, X, W, o, x, h => by
    simp only [mS] at h
    split at h
    · rename_i y z hy
      obtain ⟨p, q, rfl⟩ := stAsg_eq hy
      (simp only [Bool.and_eq_true] at h)
      obtain ⟨h1, h2, h3⟩ := loc_ok o.toOk h.1
      obtain ⟨fn, y2, xs, p1, p2, rfl, hf, hn, hg, hp, hm, hl⟩ := mCall_ok h.2
      refine (ps_set (e := .Call (.Name y2 p1) xs [] p2) o.nd h1 h2 (pe_callX o.toOk o.takes hf hn hg hp (mEs_nil hm) (sEs es o.toOk _ hm)) (by rfl) h3).imp fun D σ H ⟨ρ, h, J, re, rh, q⟩ => ?_
      refine tCX_mono (callX_do (g := fun x ρ h2 => .nxt (ρ.set i (some x)) h2) (fun ρ h0 ds h' e => by rw [es_len es _ _ _ _ e, mEs_len hm, hl]) ρ h J re rh q) fun v H1 ⟨d, h1, J1, re1, rh1, rd, q1⟩ => ?_
      exact q1 J1 H1 _ Ext.refl (re1.set i rd) rh1
    · cases h
  | .expC f es, X, W, o, x, h => by
    simp only [mS] at h
    split at h
    · rename_i z hy
      obtain ⟨q, rfl⟩ := stExp_eq hy
      obtain ⟨fn, y2, xs, p1, p2, rfl, hf, hn, hg, hp, hm, hl⟩ := mCall_ok h
      refine (ps_expr (e := .Call (.Name y2 p1) xs [] p2) (pe_callX o.toOk o.takes hf hn hg hp (mEs_nil hm) (sEs es o.toOk _ hm)) (by rfl)).imp fun D σ H ⟨ρ, h, J, re, rh, q⟩ => ?_
      refine tCX_mono (callX_do (g := fun _ ρ h2 => .nxt ρ h2) (fun ρ h0 ds h' e => by rw [es_len es _ _ _ _ e, mEs_len hm, hl]) ρ h J re rh q) fun v H1 ⟨d, h1, J1, re1, rh1, rd, q1⟩ => ?_
      exact q1 J1 H1 _ Ext.refl re1 rh1
    · cases h
  | .retC f es, X, W, o, x, h => by
    simp only [mS] at h
    split at h
    · rename_i z hy
      obtain ⟨q, rfl⟩ := stRet_eq hy
      obtain ⟨fn, y2, xs, p1, p2, rfl, hf, hn, hg, hp, hm, hl⟩ := mCall_ok h
      refine (ps_ret (e := .Call (.Name y2 p1) xs [] p2) (pe_callX o.toOk o.takes hf hn hg hp (mEs_nil hm) (sEs es o.toOk _ hm))).imp fun D σ H ⟨ρ, h, J, re, rh, q⟩ => ?_
      refine tCX_mono (callX_do (g := fun x ρ h2 => .ret x h2) (fun ρ h0 ds h' e => by rw [es_len es _ _ _ _ e, mEs_len hm, hl]) ρ h J re rh q) fun v H1 ⟨d, h1, J1, re1, rh1, rd, q1⟩ => ?_
      exact q1 J1 H1 _ Ext.refl rh1 rd
    · cases h
  | .raise_ k, X, W, o, x, h => by
    simp only [mS] at h
    split at h
    · rename_i y hy
      obtain ⟨p, m, j, p2, p3, p4, rfl⟩ := stRaise_eq hy
      (simp only [Bool.and_eq_true, decide_eq_true_eq] at h)
      obtain ⟨⟨rfl, hk⟩, hg⟩ := h
      obtain ⟨C, hm, hx, hkp, hr⟩ := o.exc _ hk
      obtain ⟨g1, g2⟩ := glb_ok o.toOk hg
      exact (ps_raise o.calm o.takes (pmk_own PySem.F.excBase_ValueError hx hm hkp hr g1 g2)).imp fun D σ H ⟨ρ, h, J, re, rh, q⟩ => q J H σ _ _ Ext.refl re rh ⟨⟨C, rfl, hm⟩, rfl⟩
    · cases h
  | .try_ b k yes no s, X, W, o, x, h => by
    simp only [mS] at h
    split at h
    · rename_i body y suite hy
      obtain ⟨p, b0, sr, p2, p3, rfl, rfl⟩ := stTry_eq hy
      simp only [Bool.and_eq_true, decide_eq_true_eq, List.all_eq_true] at h
      obtain ⟨⟨⟨⟨⟨⟨rfl, hk⟩, hg⟩, hb⟩, hs⟩, hyes⟩, hno⟩ := h
      obtain ⟨C, hm, _⟩ := o.exc _ hk
      obtain ⟨g1, g2⟩ := glb_ok o.toOk hg
      refine (ps_try_only (c := .ref C) (Wout := W) (tb := fun W' => tS ⟨X.K, X.mg, W'⟩ (evSs F G b)) (ts := fun _ _ _ => tS ⟨X.K, X.mg, W⟩ (evSs F G s)) o.stk o.frm ⟨g1, g2, .inl hm⟩ o.takes (fun W' pn xe tk ps => ?_) (fun a oe cls d pn hz hv => ?_)).imp fun D σ H ⟨ρ, h, J, re, rh, q⟩ => ⟨ρ, h, J, re, rh, ?_⟩
      · exact sSs b (X := X.tr pn xe) (W := W') ⟨⟨o.hN, o.nd, o.sc, o.fn, o.calm, ⟨o.call.ok⟩, o.blt, o.glo, o.exc, o.exm⟩, ps, tk, o.stk, o.frm⟩ body hb
      · exact sSu o.toOk s (b0 :: sr) hs
      · have q : PostS (kw X W) J H (catchS yes no (evSs F G s) (evSs F G b ρ h)) D := q
        cases er : evSs F G b ρ h with
        | err ρ' x h' =>
          rw [er] at q
          simp only [catchS] at q
          by_cases hy1 : x.cls ∈ yes
          · rw [if_pos hy1] at q
            intro J' H' σ' cls d e1 re1 rh1 rx
            obtain ⟨⟨C1, rfl, m1⟩, rfl⟩ := rx
            have m1 : X.mg x.cls = some (.ref C1) := m1
            obtain ⟨C2, C3, m2, m3, ex⟩ := o.exm _ _ _ (hyes _ hy1)
            rw [m1] at m2; rw [hm] at m3
            cases m2; cases m3
            exact ⟨true, ex, fun _ a na => ⟨ρ', h', J', re1, rh1, PostS.ext' rh rh1 e1 q⟩, fun z => (by cases z)⟩
          · rw [if_neg hy1] at q
            by_cases hy2 : x.cls ∈ no
            · rw [if_pos hy2] at q
              intro J' H' σ' cls d e1 re1 rh1 rx
              have w := q J' H' σ' cls d e1 re1 rh1 rx
              obtain ⟨⟨C1, rfl, m1⟩, rfl⟩ := rx
              have m1 : X.mg x.cls = some (.ref C1) := m1
              obtain ⟨C2, C3, m2, m3, ex⟩ := o.exm _ _ _ (hno _ hy2)
              rw [m1] at m2; rw [hm] at m3
              cases m2; cases m3
              exact ⟨false, ex, fun z => (by cases z), fun _ => w⟩
            · rw [if_neg hy2] at q; exact q.elim
        | nxt _ _ => rw [er] at q; exact q
        | brk _ _ => rw [er] at q; exact q
        | cnt _ _ => rw [er] at q; exact q
        | ret _ _ => rw [er] at q; exact q
        | bad => rw [er] at q; exact q
    · cases h
theorem sSs : ∀ (t : Ss) {X : Cx} {W : WX} (o : OkS c F G X W) (xs : List Stmt), mSs c t xs = true → PSs X xs (tS (kw X W) (evSs F G t))
  | .nil, X, W, o, [], h => ss_nil
  | .nil, X, W, o, _ :: _, h => by cases h
  | .cons _ _, X, W, o, [], h => by cases h
  | .cons s ss, X, W, o, x :: xs, h => by
    simp only [mSs, Bool.and_eq_true] at h
    exact ss_cons (sS s o _ h.1) (sSs ss o _ h.2)
end
end
end PV
end

section
set_option maxRecDepth 100000
namespace PV
open L2 PySem PySem.Spec PyProof.Rows

/-! ### a def's end -/
section
variable {K : PySem.W.Frag} {J J' : Jn} {H H' : Hp} {h h' : Hh}
theorem frz_rd {n : Nat} (rh : RH K J h H) : ∀ (k : Nat) (d : D) (v : V), RD K J H d v → (d.frz h n k).rlt n = true → RD K (J.cut n) H (d.frz h n k) v
  | 0, d, v, r, e => r.cut e
  | k + 1, d, v, r, e => by
    have i1 := frz_rd rh (n := n) k
    have i2 : ∀ (ds : List D) (vs : List V), RDs K J H ds vs → D.rlts n (ds.map (D.frz h n k)) = true → RDs K (J.cut n) H (ds.map (D.frz h n k)) vs := by
      intro ds
      induction ds with
      | nil => intro vs r e; cases r; exact .nil
      | cons x xs ih =>
        intro vs r e
        cases r with
        | cons rx rr =>
          simp only [List.map_cons, D.rlts, Bool.and_eq_true] at e
          exact .cons (i1 _ _ rx e.1) (ih _ rr e.2)
    cases d with
    | ref i =>
      simp only [D.frz] at e ⊢
      split at e
      · rename_i hi
        rw [if_pos hi]; exact r.cut e
      · rename_i hi
        rw [if_neg hi]
        cases r with
        | @ref _ a q =>
          obtain ⟨o, u, h1, h2, h3⟩ := rh.at q
          rw [h1] at e ⊢
          cases h3 with
          | @lst ds vs z rr =>
            refine .lst (fun hm => ?_) (fun hm => rh.apart a hm (List.mem_of_getElem? q)) h2 z (i2 _ _ rr e)
            obtain ⟨j, hj⟩ := List.mem_iff_getElem?.mp hm
            have hjn : j < n := by
              have := (List.getElem?_eq_some_iff.mp hj).1
              simp only [List.length_take] at this; omega
            have hj' : J.l[j]? = some a := by
              have hj2 : (J.l.take n)[j]? = some a := hj
              rwa [List.getElem?_take_of_lt hjn] at hj2
            obtain ⟨l1, e1⟩ := List.getElem?_eq_some_iff.mp q
            obtain ⟨l2, e2⟩ := List.getElem?_eq_some_iff.mp hj'
            have := (List.getElem_inj rh.nd).mp (e1.trans e2.symm)
            omega
          | dct z rr => exact absurd (of_decide_eq_true e) hi
    | tup xs =>
      cases r with
      | tup a m q z r => exact .tup (fun hm => a (List.mem_of_mem_take hm)) m q z (i2 _ _ r e)
      | ktup kk z r => exact .ktup kk z (i2 _ _ r e)
    | lst xs =>
      cases r with
      | lst a m q z r => exact .lst (fun hm => a (List.mem_of_mem_take hm)) m q z (i2 _ _ r e)
    | non => exact r.cut e
    | bl b => exact r.cut e
    | int i => exact r.cut e
    | str x => exact r.cut e
    | fz xs => exact r.cut e
    | ftup xs => exact r.cut e
theorem finD_post {f : Bool} {d : D} {h2 : Hh} {Q : VK} (rh : RH K J h H) (p : Post K J H (rD K) (finD f h.length d h2) Q) : ∀ J' H' v, Ext J H J' H' → RH K J' h2 H' → RD K J' H' d v → Q v H' := by
  intro J' H' v e rh' rv
  unfold finD at p
  cases f with
  | false => exact p J' H' v e rh' rv
  | true =>
    simp only [if_true] at p
    split at p
    · rename_i hc
      (simp only [Bool.and_eq_true] at hc)
      have hle : h.length ≤ h2.length := by
        obtain ⟨m, hm, _⟩ := e.pre
        rw [← rh'.len, ← rh.len, hm, List.length_append]; omega
      exact p _ H' v (e.cut rh) (rh'.cut hle hc.2) (frz_rd rh' 4 _ _ rv hc.1)
    · exact p.elim
theorem finR_post {mg : Str → Option Value} {E : XK} {f : Bool} {r : RS} {Q : VK} (rh : RH K J h H) (p : PostX K mg E J H (rD K) (finR f h.length r) Q) : PostS ⟨K, mg, fun c d _ H => E c d H⟩ J H r { nx := fun _ H' => Q .non H', rt := Q } := by
  have back : ∀ {d : D} {h2 : Hh}, PostX K mg E J H (rD K) (finD f h.length d h2) Q → Post K J H (rD K) (finD f h.length d h2) Q := fun {d h2} p => by
    unfold finD at p ⊢
    cases f with
    | false => exact p
    | true =>
      simp only [if_true] at p ⊢
      split
      · rename_i hc; rw [if_pos hc] at p; exact p
      · rename_i hc; rw [if_neg hc] at p; exact p
  cases r with
  | ret d h2 => exact finD_post rh (back p)
  | nxt ρ h2 => exact fun J' H' σ e re rh' => finD_post rh (back p) J' H' .non e rh' .non
  | bad => exact p
  | brk _ _ => exact False.elim p
  | cnt _ _ => exact False.elim p
  | err ρ x h2 => exact fun J' H' σ c d e re rh' rx => p J' H' c d e rh' rx
theorem re_start {N : List Str} {ds : List D} {vs : List V} (r : RDs K J H ds vs) : RE K J H (ds.map some ++ List.replicate (N.length - ds.length) none) (L2.start N vs) := by
  refine ⟨by simp [L2.start, r.length], fun i d q => ?_⟩
  by_cases hi : i < ds.length
  · rw [List.getElem?_append_left (by simpa using hi), List.getElem?_map] at q
    cases hd : ds[i]? with
    | none => rw [hd] at q; cases q
    | some d' =>
      rw [hd] at q; cases q
      obtain ⟨v, h1, h2⟩ := r.get hd
      refine ⟨v, ?_, h2⟩
      have hv : i < vs.length := (List.getElem?_eq_some_iff.mp h1).1
      unfold L2.start
      rw [List.getElem?_append_left (by simpa using hv), List.getElem?_map, h1]; rfl
  · rw [List.getElem?_append_right (by simp; omega)] at q
    rw [List.getElem?_replicate] at q
    split at q <;> cases q
end

/-! ### a def by its body, where no repr is under way -/
section
variable {P : Program} {w : World} {K : PySem.W.Frag} {mg : Str → Option Value} {base : Heap} {params : Arguments} {body : List Stmt} {scope : Scope}
theorem deeper_guards (A : Around) (env : PySem.Env) : (A.deeper env).guards = A.guards := rfl
theorem fnG_of {x : Str} {a : Addr} {fd : FuncData} {N ps : List Str} {k : Nat} {sp : Sp} (F : FunD K x x params body scope [] [] a fd) (S : FnScope N ps scope) (len : ∀ vs H Q E, sp vs H Q E → vs.length = ps.length)
    (hb : ∀ (cd : Value) (A : Around) (out : List PySem.Env) (s : Shared) (H : Hp) (vs : List V) (Q : VK) (E : XK), Room k (A.deeper (envOfC x scope s.heap.objs.size a cd)) → A.guards = some [] → sp vs H Q E →
      ∃ t, PSs (cxOf (L2.CX P w) P w K mg base N x scope a cd A out s H E) body t ∧ t { nx := fun _ H' => Q .non H', rt := Q } (L2.start N vs) H) : FnG P w K mg base (k + 1) a fd ps sp := by
  (obtain ⟨oc, od, dV, kV, doc, pm, an, cdv, ct, osl, rfl, lk, hcd, _, _⟩ := F.ex)
  refine ⟨len, fun {A out s H args us vs Q E} hr hgd e0 hbd r hsp => ?_⟩
  have inK : K.In s.heap := e0.mod.kin.keeps fun b o e => (e0.bs b o e).1
  have noLim : s.heap.NoLimit := e0.mod.nolimit.keeps fun b o e => (e0.bs b o e).1
  refine codeAny_call_function hr.depth (inK _ _ lk) rfl S.co S.gen rfl (PySem.W.codeRec_of inK hcd) (hbd _ _ _ _ ?_)
  refine wpAny_newFunctionEnv_cells S.kind (fun y hy => ?_) fun env he s1 x1 => ?_
  · have hy1 := (List.of_mem_zip (show (y.1, y.2) ∈ ps.zip us from hy)).1
    cases S.par y.1 hy1 with
    | inl q => exact .inl q
    | inr q => exact .inr ⟨q, PySem.W.cellsFrom_some _ _ _ (.inl q)⟩
  · subst he
    refine ⟨noLim.keeps x1.toInCall.keep, codeAny_func ?_⟩
    obtain ⟨t, ht, hq⟩ := hb cdv A out s H vs Q E (hr.deeper _) hgd hsp
    have I : L2.Inv (cxOf (L2.CX P w) P w K mg base N x scope a cdv A out s H E) [] (L2.start N vs) H s1 := inv_start S hr.hd e0 (len _ _ _ _ hsp) r x1
    (refine wpAny_mono (ht.run [] s1 (L2.start N vs) H _ I hq) (fun fl s' hs => ?_) fun e s' hs => hs)
    cases fl with
    | ret u => obtain ⟨v, σ', H', I', rv, q⟩ := hs; exact ⟨v, H', I'.os, I'.bare, I'.base, I'.hok, rv, q⟩
    | next => obtain ⟨σ', H', I', q⟩ := hs; exact ⟨.non, H', I'.os, I'.bare, I'.base, I'.hok, rfl, q⟩
    | brk => obtain ⟨_, _, _, q⟩ := hs; exact q.elim
    | cont => obtain ⟨_, _, _, q⟩ := hs; exact q.elim
end

/-! ### the table of the defs -/
/-- what is known of a def of the table: where it stands, its text -/
structure DefOk (K : PySem.W.Frag) (mg : Str → Option Value) (bs gn xs : List Str) (xm : List (Str × Str × Bool)) (T : List Fn) (fn : Fn) (params : Arguments) (body : List Stmt) (scope : Scope) : Prop where
  sc : FnScope fn.N fn.P scope
  ok : mSs ⟨fn.N, scope, fun _ => true, bs, T, gn, xs, xm⟩ fn.body body = true
  ex : ∃ a fd, FunD K fn.name fn.name params body scope [] [] a fd ∧ mg fn.name = some (.ref a) ∧ L2.Binds K fd fn.P [] ∧ ∀ q ∈ fn.kw, KwOk K fd fn.P q.1 q.2.1 q.2.2
section
variable {P : Program} {w : World} {K : PySem.W.Frag} {mg : Str → Option Value} {base : Heap} {T : List Fn} {bs gn xs : List Str} {xm : List (Str × Str × Bool)} {G : List D}
def TabAt (P : Program) (w : World) (K : PySem.W.Frag) (mg : Str → Option Value) (base : Heap) (T : List Fn) (G : List D) (k : Nat) : Prop := ∀ (f : Nat) (fn : Fn), T[f]? = some fn →
    ∃ a fd, mg fn.name = some (.ref a) ∧ PySem.W.keepIn K (.ref a) = true ∧ FnG P w K mg base k a fd fn.P (spF K mg (callN T G k) f fn.P.length) ∧ L2.Binds K fd fn.P [] ∧ ∀ q ∈ fn.kw, KwOk K fd fn.P q.1 q.2.1 q.2.2
/-- one def more deep -/
theorem def_step (hb : ∀ x ∈ bs, mg x = none) (hg : ∀ (i : Nat) (x : Str) (d : D), gn[i]? = some x → G[i]? = some d → ∃ v u, mg x = some u ∧ L2.RelV v u ∧ ∀ J H, RD K J H d v) {k f : Nat} {fn : Fn} {params : Arguments} {body : List Stmt} {scope : Scope} {a : Addr} {fd : FuncData}
    (hx : ∀ x ∈ xs, ∃ C, mg x = some (.ref C) ∧ PySem.W.excIn K C He.veBase "ValueError.__new__" = true ∧ PySem.W.keepIn K (.ref C) = true ∧ PySem.W.subIn K (.ref C) (.type "BaseException") = some true ∧ PySem.W.typeIn K (.ref C) = some (.type "type")) (hm : ∀ x y b, (x, y, b) ∈ xm → ∃ C C', mg x = some (.ref C) ∧ mg y = some (.ref C') ∧ PySem.W.exmOne K (.ref C) (.ref C') = some b)
    (IH : TabAt P w K mg base T G k) (hf : T[f]? = some fn) (sc : FnScope fn.N fn.P scope) (ok : mSs ⟨fn.N, scope, fun _ => true, bs, T, gn, xs, xm⟩ fn.body body = true) (fu : FunD K fn.name fn.name params body scope [] [] a fd) :
    FnG P w K mg base (k + 1) a fd fn.P (spF K mg (callN T G (k + 1)) f fn.P.length) := by
  unfold TabAt at IH
  refine fnG_of fu sc (fun vs H Q E h => h.1) (fun cdv A outer s H vs Q E hr hgd hsp => ⟨tS ⟨K, mg, fun c d _ H => E c d H⟩ (evSs (callN T G k) G fn.body), ?_, ?_⟩)
  · exact sSs fn.body (c := ⟨fn.N, scope, fun _ => true, bs, T, gn, xs, xm⟩) (X := cxOf (L2.CX P w) P w K mg base fn.N fn.name scope a cdv A outer s H E) (W := fun c d _ H => E c d H) ⟨⟨rfl, sc.nd, rfl, rfl, rfl, ⟨k, hr, hgd, IH⟩, hb, hg, fun x hxs => let ⟨C, m1, m2, m3, m4, m5⟩ := hx x hxs; ⟨C, m1, m2, m3, raises_own m4 m5⟩, hm⟩, passes_of rfl, takes_of rfl rfl rfl rfl, rfl, rfl⟩ body ok
  · obtain ⟨hl, J, h, ds, rs, rh, q⟩ := hsp
    have q : PostX K mg E J H (rD K) (match T[f]? with
      | none => .bad
      | some fn => if ds.length = fn.P.length then finR fn.frz h.length (evSs (callN T G k) G fn.body (ds.map some ++ List.replicate (fn.N.length - ds.length) none) h) else .bad) Q := q
    rw [hf] at q
    dsimp only at q
    rw [if_pos (by rw [rs.length]; exact hl)] at q
    exact ⟨_, h, J, re_start rs, rh, finR_post rh q⟩
theorem tab_ok (hT : ∀ (f : Nat) (fn : Fn), T[f]? = some fn → ∃ params body scope, DefOk K mg bs gn xs xm T fn params body scope) (hb : ∀ x ∈ bs, mg x = none)
    (hg : ∀ (i : Nat) (x : Str) (d : D), gn[i]? = some x → G[i]? = some d → ∃ v u, mg x = some u ∧ L2.RelV v u ∧ ∀ J H, RD K J H d v)
    (hx : ∀ x ∈ xs, ∃ C, mg x = some (.ref C) ∧ PySem.W.excIn K C He.veBase "ValueError.__new__" = true ∧ PySem.W.keepIn K (.ref C) = true ∧ PySem.W.subIn K (.ref C) (.type "BaseException") = some true ∧ PySem.W.typeIn K (.ref C) = some (.type "type")) (hm : ∀ x y b, (x, y, b) ∈ xm → ∃ C C', mg x = some (.ref C) ∧ mg y = some (.ref C') ∧ PySem.W.exmOne K (.ref C) (.ref C') = some b) : ∀ (k : Nat), TabAt P w K mg base T G k
  | 0, f, fn, hf => by
    obtain ⟨params, body, scope, d⟩ := hT f fn hf
    obtain ⟨a, fd, fu, hma, hbd, hkw⟩ := d.ex
    refine ⟨a, fd, hma, fu.kp, ⟨fun vs H Q E h => h.1, fun {A out s H args us vs Q E} hr hgd e0 hb' r hsp => ?_⟩, hbd, hkw⟩
    obtain ⟨_, J, h, ds, _, _, q⟩ := hsp
    exact False.elim q
  | k + 1, f, fn, hf => by
    obtain ⟨params, body, scope, d⟩ := hT f fn hf
    obtain ⟨a, fd, fu, hma, hbd, hkw⟩ := d.ex
    exact ⟨a, fd, hma, fu.kp, def_step hb hg hx hm (tab_ok hT hb hg hx hm k) hf d.sc d.ok fu, hbd, hkw⟩
/-- a call with keywords -/
theorem kw_mk {x qual : Str} {params : Arguments} {body : List Stmt} {scope : Scope} {a : Addr} {fd : FuncData} {ps : List Str} {n : Nat} {ks : List Str} {pm : List Nat} (fu : FunD K x qual params body scope [] [] a fd) (hl : pm.length = ps.length)
    (h : ∀ (kV doc pmv : Value) (an : Option Addr) (cdv ct : Value) (us ws : List Value), us.length = n → ws.length = ks.length → bindArgs (PySem.W.fnOf x qual params body scope .none kV doc pmv an cdv ct) ⟨us, ks.zip ws⟩ = pure (ps.zip (pmD .none pm us ws))) : KwOk K fd ps n ks pm := by
  obtain ⟨oc, od, dV, kV, doc, pmv, an, cdv, ct, osl, rfl, lk, hcd, hD, hK⟩ := fu.ex
  (rcases hD with ⟨_, rfl⟩ | ⟨e, _⟩)
  · exact ⟨fun s us ws _ h1 h2 => .of_eq (h kV doc pmv an cdv ct us ws h1 h2), hl⟩
  · exact absurd rfl e
/-- the law: what the evaluator says of it holds -/
theorem law_sp {f n k : Nat} {fn : Fn} (hf : T[f]? = some fn) (hp : fn.P.length = 1) (hev : ∀ ns : List Int, ns.length ≤ n → ∃ h, callN T G k f [.fz (ns.map D.int)] [] = .ok (.bl true) h) (hn : n ≤ sizeLine) (H : Hp) (a : Addr) (ns : List Int) (hl : ns.length ≤ n) (hO : Only H) (hS : SqL K H a (ns.map V.int)) :
    spF K mg (callN T G k) f fn.P.length [.ref a] H (fun v _ => v = .bl true) fun _ _ _ => False := by
  refine ⟨hp.symm, ⟨[], []⟩, [], [.fz (ns.map D.int)], .cons ?_ .nil, ⟨List.nodup_nil, rfl, fun i o e => by simp at e, fun a ha => (by cases ha), fun a ha => (by cases ha)⟩, ?_⟩
  · have rs : ∀ ns : List Int, RDs K ⟨[], []⟩ H (ns.map D.int) (ns.map V.int) := by
      intro ns
      induction ns with
      | nil => exact .nil
      | cons i r ih => exact .cons (.int i) ih
    have hz : (ns.map V.int).length ≤ sizeLine := by rw [List.length_map]; omega
    rcases hS with hS | hS
    · rcases hO a with e | ⟨o, xs, e⟩
      · rcases hS with q | ⟨_, q⟩ <;> rw [e] at q <;> cases q
      · rcases hS with q | ⟨o', q⟩
        · rw [e] at q; cases q
        · exact .fz (fun hm => by cases hm) (fun hm => by cases hm) q hz (rs ns)
    · exact .kfz hS hz (rs ns)
  · obtain ⟨h, e⟩ := hev ns hl
    rw [e]
    intro J' H' b _ _ rv
    cases rv; rfl

/-! ### the law's call -/
theorem law_g {mb : Str → Option Value} {k : Nat} {fa a : Addr} {fd : FuncData} {x : Str} {sp : Sp} {s1 : Shared} {vs : List Value} {ns : List Int}
    (kx : K.In s1.heap) (hm : s1.heap.Ns mainGlobals mg) (hbn : s1.heap.Ns builtinsNs mb) (hbb : ∀ y : Str, y ≠ "__name__" → mb y = bootBuiltins y) (hlim : s1.heap.NoLimit) (hgn : s1.gens = #[])
    (ha : s1.heap.get? a = some { cls := .type "list", data := .seq vs.toArray }) (hi : IntsAre vs ns) (hl : ns.length ≤ sizeLine) (hr : Room k callerA)
    (hF : ∀ base : Heap, K.In base → base.Ns mainGlobals mg → FnG P w K mg base k fa fd [x] sp) (hbd : ∀ (s : Shared) (u : Value), BindsTo s fd ⟨[u], []⟩ [(x, u)])
    (hsp : ∀ H : Hp, Only H → SqL K H a (ns.map V.int) → sp [.ref a] H (fun v _ => v = .bl true) E0) :
    codeAny (model P w) callerA (.call (.ref fa) ⟨[.ref a], []⟩) (fun r s' => r = .ok (.ret (.bool true)) ∧ OldK s1.heap s'.heap ∧ s'.os = s1.os ∧ AllBare s'.gens) s1 := by
  have rv : Vals (ns.map V.int) vs := vals_ints hi
  have hlen := hi.length
  have main : ∀ H : Hp, Only H → SqL K H a (ns.map V.int) → HOk P w H s1.heap → (∀ b, H b ≠ none → b = a ∧ K.lookup a = none) →
      codeAny (model P w) callerA (.call (.ref fa) ⟨[.ref a], []⟩) (fun r s' => r = .ok (.ret (.bool true)) ∧ OldK s1.heap s'.heap ∧ s'.os = s1.os ∧ AllBare s'.gens) s1 := by
    intro H only seq ok own
    have keep : ∀ {b : Addr} {o : Obj}, s1.heap.get? b = some o → H b = none → (hidT s1.heap H).get? b = some o := fun e n => hidT_get e n
    have dictFree : ∀ {b : Addr} {o : Obj} {es : Array DictEntry} {n : Nat}, s1.heap.get? b = some o → o.data = .dict es n → H b = none := by
      intro b o es n e d
      cases hq : H b with
      | none => rfl
      | some u =>
        obtain rfl := (own b (by rw [hq]; exact Option.some_ne_none u)).1
        rw [ha] at e; cases e; cases d
    have names : ∀ {b : Addr} {m : Str → Option Value}, s1.heap.Ns b m → (hidT s1.heap H).Ns b m := by
      rintro b m ⟨o, es, n, e, d, q⟩
      exact ⟨o, es, n, keep e (dictFree e d), d, q⟩
    have kIn : K.In (hidT s1.heap H) := by
      intro b o e
      refine keep (kx b o e) ?_
      cases hq : H b with
      | none => rfl
      | some u =>
        obtain ⟨rfl, hk⟩ := own b (by rw [hq]; exact Option.some_ne_none u)
        rw [hk] at e; cases e
    obtain ⟨mc, c1, c2⟩ := hlim
    have env : Env0 P w K mg (hidT s1.heap H) callerA [] s1 H :=
      ⟨rfl, ⟨kIn, names hm, ⟨mb, names hbn, hbb⟩, ⟨mc, names c1, c2⟩⟩, fun b o e => of_hidT e, Nat.le_of_eq (hidT_size _ _), trivial, fun b hb => (List.not_mem_nil hb).elim, ok, .of_eq hgn⟩
    refine codeAny_mono ((hF _ kIn (names hm)).go (us := [.ref a]) (vs := [.ref a]) hr rfl env (hbd s1 (.ref a)) (.cons rfl .nil) (hsp H only seq)) fun r s' hq => ?_
    cases r with
    | error e =>
      obtain ⟨_, _, _, _, _, _, _, _, _, _, _, _, z⟩ := hq
      exact z.elim
    | ok fl =>
      cases fl with
      | next => exact False.elim hq
      | brk => exact False.elim hq
      | cont => exact False.elim hq
      | ret u =>
        obtain ⟨v, H', os, bare, un, ok', ru, rfl⟩ := hq
        cases (show u = Value.bool true from ru)
        (refine ⟨rfl, OldK.of_keep fun b o e => ?_, os, bare⟩)
        cases hb : H b with
        | none => exact un.keep b o e hb (fun z => List.not_mem_nil z) (by simp)
        | some u =>
          rcases only b with z | ⟨ob, xs, z⟩
          · rw [hb] at z; cases z
          · have e1 := (ok b _ z).1
            have e2 := (ok' b _ (un.frzs b ob _ z)).1
            rw [e] at e1; cases e1; exact e2
  cases hk : K.lookup a with
  | some o =>
    have e := kx a o hk
    rw [ha] at e; cases e
    exact main (fun _ => none) (fun _ => .inl rfl) (.inr ⟨_, vs.toArray, _, hk, rfl, rfl, rfl, by simpa [hlen] using hl, by simpa using rv⟩) (fun b u z => by cases z) fun b z => absurd rfl z
  | none =>
    let H : Hp := upd (fun _ => none) a (.frz { cls := .type "list", data := .seq vs.toArray } (.lst (ns.map V.int)))
    have ne : ∀ {b : Addr}, b ≠ a → H b = none := fun hb => upd_ne hb
    refine main H (fun b => ?_) (.inl (.inr ⟨_, upd_same⟩)) (fun b u z => ?_) fun b z => ?_
    · by_cases hb : b = a
      · subst hb; exact .inr ⟨_, _, upd_same⟩
      · exact .inl (ne hb)
    · by_cases hb : b = a
      · subst hb
        have z' : some _ = some u := upd_same.symm.trans z
        cases z'
        (exact ⟨ha, by rw [List.length_map]; exact hl, vs, _, rv, ha⟩)
      · rw [ne hb] at z; cases z
    · by_cases hb : b = a
      · exact ⟨hb, hk⟩
      · exact absurd (ne hb) z
end
/-- a law over the evaluator -/
theorem walk_g {l : PySem.W.OpenLaw} {n k : Nat} {q : Program} {loose : List Str} {XP : (Str → Option Value) → Heap → Prop} {YP : World → Heap → Prop} {d : DefRec} {x : Str}
    (hn : l.most = some n) (hn2 : n ≤ sizeLine)
    (hdf : d.params.defaults = []) (hr : Room k callerA)
    (hF : ∀ (w : World) (mg : Str → Option Value) (fa : Addr) (h : Heap), YP w h → h.Ns mainGlobals mg → mg d.name = some (.ref fa) →
      ∃ (K : PySem.W.Frag) (fd : FuncData) (sp : Sp), K.In h ∧
        (∀ (s : Shared) (u : Value), BindsTo s fd ⟨[u], []⟩ [(x, u)]) ∧
        (∀ (H : Hp) (a : Addr) (ns : List Int), ns.length ≤ n → Only H → SqL K H a (ns.map V.int) → sp [.ref a] H (fun v _ => v = .bl true) E0) ∧
        ∀ base : Heap, K.In base → base.Ns mainGlobals mg → FnG l.prog w K mg base k fa fd [x] sp) :
    (PySem.W.WalkO q loose XP YP l.row.toRowW d [] (fun f vs => PySem.call f vs)) := by
  refine Att.attach_call hn hdf fun w t0 t1 mg mb fa o pm cd doc a vs ns W Y ho hd hcd hmg hobj hints hlen hgn => ?_
  obtain ⟨K, fd, sp, kx, hbd, hsp, go⟩ := hF w mg fa _ Y W.T.g hmg
  exact law_g kx W.T.g W.T.b W.T.builtins W.T.nolimit hgn hobj hints (Nat.le_trans hlen hn2) hr go hbd fun H only seq => hsp H a ns hlen only seq
end PV
end

section
/-! PvU: rules for running the evaluator by simp. -/
namespace PV
open PySem L2
section
variable {α β : Type} {F : Fns} {G : List D} {ρ : Env} {h : Hh}
/-- locks a continuation: simp leaves it as it stands until its value is there -/
structure Lk {γ : Type} (f : γ) : Type where
  mk ::
def R.bnd (r : R α) (f : α → Hh → R β) (_ : Lk f) : R β := r.bind f
def R.thn (r : R α) (f : α → Hh → RS) (_ : Lk f) : RS := r.then_ f
def RS.thn (r : RS) (f : Env → Hh → RS) (_ : Lk f) : RS := r.then_ f
@[simp] theorem bnd_ok (a : α) (h : Hh) (f : α → Hh → R β) (l : Lk f) : (R.ok a h).bnd f l = f a h := id rfl
@[simp] theorem bnd_bad (f : α → Hh → R β) (l : Lk f) : (R.bad : R α).bnd f l = .bad := id rfl
@[simp] theorem thn_ok (a : α) (h : Hh) (f : α → Hh → RS) (l : Lk f) : (R.ok a h).thn f l = f a h := id rfl
@[simp] theorem thn_bad (f : α → Hh → RS) (l : Lk f) : (R.bad : R α).thn f l = .bad := id rfl
@[simp] theorem sthn_nxt (ρ : Env) (h : Hh) (f : Env → Hh → RS) (l : Lk f) : (RS.nxt ρ h).thn f l = f ρ h := id rfl
@[simp] theorem sthn_ret (d : D) (h : Hh) (f : Env → Hh → RS) (l : Lk f) : (RS.ret d h).thn f l = .ret d h := id rfl
@[simp] theorem sthn_bad (f : Env → Hh → RS) (l : Lk f) : RS.bad.thn f l = .bad := id rfl
@[simp] theorem sthn_brk (ρ : Env) (h : Hh) (f : Env → Hh → RS) (l : Lk f) : (RS.brk ρ h).thn f l = .brk ρ h := id rfl
@[simp] theorem sthn_cnt (ρ : Env) (h : Hh) (f : Env → Hh → RS) (l : Lk f) : (RS.cnt ρ h).thn f l = .cnt ρ h := id rfl
@[simp] theorem bnd_ite {c : Prop} [Decidable c] {a b : R α} {f : α → Hh → R β} {l : Lk f} : (if c then a else b).bnd f l = if c then a.bnd f l else b.bnd f l := by split <;> rfl
@[simp] theorem thn_ite {c : Prop} [Decidable c] {a b : R α} {f : α → Hh → RS} {l : Lk f} : (if c then a else b).thn f l = if c then a.thn f l else b.thn f l := by split <;> rfl
@[simp] theorem sthn_ite {c : Prop} [Decidable c] {a b : RS} {f : Env → Hh → RS} {l : Lk f} : (if c then a else b).thn f l = if c then a.thn f l else b.thn f l := by split <;> rfl
@[simp] theorem finR_ite {c : Prop} [Decidable c] {a b : RS} {g : Bool} {n : Nat} : finR g n (if c then a else b) = if c then finR g n a else finR g n b := by split <;> rfl
@[simp] theorem finR_ret (n : Nat) (d : D) (h : Hh) : finR false n (.ret d h) = .ok d h := id rfl
@[simp] theorem finR_err (g : Bool) (n : Nat) (ρ : Env) (x : Xc) (h : Hh) : finR g n (.err ρ x h) = .err x h := id rfl
@[simp] theorem sthn_err (ρ : Env) (x : Xc) (h : Hh) (f : Env → Hh → RS) (l : Lk f) : (RS.err ρ x h).thn f l = .err ρ x h := id rfl
@[simp] theorem finR_nxt (n : Nat) (ρ : Env) (h : Hh) : finR false n (.nxt ρ h) = .ok .non h := id rfl
/-! expressions -/
theorem opt_map {f : α → β} (o : Option α) (h : Hh) : R.opt (o.map f) h = (R.opt o h).bind fun a h => .ok (f a) h := by cases o <;> rfl
@[simp] theorem v_var (i : Nat) : (evE F G (.var i)).v ρ h = (match ρ[i]? with | some (some d) => R.ok d h | _ => R.bad) := id rfl
@[simp] theorem v_con (d : D) : (evE F G (.con d)).v ρ h = .ok d h := id rfl
@[simp] theorem v_glo (i : Nat) : (evE F G (.glo i)).v ρ h = R.opt G[i]? h := id rfl
@[simp] theorem t_miss : (evE F G .miss).t ρ h = .ok true h := id rfl
@[simp] theorem v_tup' (es : Es) : (evE F G (.tup es)).v ρ h = ((evEs F G es).l ρ h).bnd (fun xs h1 => if sizeOk xs.length then .ok (.tup xs) h1 else .bad) ⟨⟩ := id rfl
@[simp] theorem v_ftup' (es : Es) : (evE F G (.ftup es)).v ρ h = ((evEs F G es).l ρ h).bnd (fun xs h1 => if sizeOk xs.length then .ok (.ftup xs) h1 else .bad) ⟨⟩ := id rfl
@[simp] theorem v_lst' (es : Es) : (evE F G (.lst es)).v ρ h = ((evEs F G es).l ρ h).bnd (fun xs h1 => if sizeOk xs.length then .ok (.lst xs) h1 else .bad) ⟨⟩ := id rfl
@[simp] theorem v_new (e : E) : (evE F G (.new e)).v ρ h = ((evE F G e).v ρ h).bnd newObj ⟨⟩ := id rfl
@[simp] theorem v_bin (o : BOp) (a b : E) : (evE F G (.bin o a b)).v ρ h = ((evE F G a).v ρ h).bnd (fun x h1 => ((evE F G b).v ρ h1).bnd (fun y h2 => R.opt (opBin o h2 x y) h2) ⟨⟩) ⟨⟩ := id rfl
@[simp] theorem v_neg (a : E) : (evE F G (.neg a)).v ρ h = ((evE F G a).v ρ h).bnd (fun x h1 => R.opt (x.isInt.map fun i => .int (-i)) h1) ⟨⟩ := id rfl
@[simp] theorem v_cmp (o : COp) (a b : E) : (evE F G (.cmp o a b)).v ρ h = ((evE F G a).v ρ h).bnd (fun x h1 => ((evE F G b).v ρ h1).bnd (fun y h2 => (R.opt (opCmp o h2 x y) h2).bnd (fun t h3 => .ok (.bl t) h3) ⟨⟩) ⟨⟩) ⟨⟩ := by
  show _ = ((evE F G a).v ρ h).bind fun x h1 => ((evE F G b).v ρ h1).bind fun y h2 => (R.opt (opCmp o h2 x y) h2).bind fun t h3 => .ok (D.bl t) h3
  simp only [← opt_map]; rfl
@[simp] theorem v_and (a : E) (r : Es) : (evE F G (.and a r)).v ρ h = ((evE F G a).v ρ h).bnd (fun x h1 => (vBl x h1).bnd (fun t h2 => if t then (evEs F G r).an ρ h2 else .ok (.bl false) h2) ⟨⟩) ⟨⟩ := id rfl
@[simp] theorem v_or (a : E) (r : Es) : (evE F G (.or a r)).v ρ h = ((evE F G a).v ρ h).bnd (fun x h1 => (vBl x h1).bnd (fun t h2 => if t then .ok (.bl true) h2 else (evEs F G r).on ρ h2) ⟨⟩) ⟨⟩ := id rfl
@[simp] theorem v_not (a : E) : (evE F G (.not a)).v ρ h = ((evE F G a).v ρ h).bnd (fun x h1 => (vBl x h1).bnd (fun t h2 => .ok (.bl (!t)) h2) ⟨⟩) ⟨⟩ := id rfl
@[simp] theorem v_ite (c a b : E) : (evE F G (.ite c a b)).v ρ h = ((evE F G c).t ρ h).bnd (fun t h1 => if t then (evE F G a).v ρ h1 else (evE F G b).v ρ h1) ⟨⟩ := id rfl
@[simp] theorem v_idx (a i : E) : (evE F G (.idx a i)).v ρ h = ((evE F G a).v ρ h).bnd (fun x h1 => ((evE F G i).v ρ h1).bnd (fun y h2 => R.opt (opIdx h2 x y) h2) ⟨⟩) ⟨⟩ := id rfl
@[simp] theorem v_slc (a lo hi : E) : (evE F G (.slc a lo hi)).v ρ h = ((evE F G a).v ρ h).bnd (fun x h1 => (vPart lo.isMiss (evE F G lo) ρ h1).bnd (fun l h2 => (vPart hi.isMiss (evE F G hi) ρ h2).bnd (fun u h3 => R.opt (opSlc h3 x l u) h3) ⟨⟩) ⟨⟩) ⟨⟩ := id rfl
@[simp] theorem v_call (f : Nat) (es : Es) : (evE F G (.call f es)).v ρ h = ((evEs F G es).l ρ h).bnd (fun xs h1 => F f xs h1) ⟨⟩ := id rfl
@[simp] theorem v_callK (f : Nat) (es kes : Es) (ks : List Nat) : (evE F G (.callK f es kes ks)).v ρ h = ((evEs F G es).l ρ h).bnd (fun xs h1 => ((evEs F G kes).l ρ h1).bnd (fun ys h2 => F f (pmD .non ks xs ys) h2) ⟨⟩) ⟨⟩ := id rfl
@[simp] theorem v_bf (f : Bf) (es : Es) : (evE F G (.bf f es)).v ρ h = ((evEs F G es).l ρ h).bnd (fun xs h1 => R.opt (opBf f h1 xs) h1) ⟨⟩ := id rfl
@[simp] theorem v_isi (a : E) (t : Ty) : (evE F G (.isi a t)).v ρ h = ((evE F G a).v ρ h).bnd (fun x h1 => if x.isF then .bad else .ok (.bl (opIsi t h1 x)) h1) ⟨⟩ := id rfl
@[simp] theorem v_chain (o p : COp) (a b c : E) : (evE F G (.chain o p a b c)).v ρ h = ((evE F G a).v ρ h).bnd (fun x h1 => ((evE F G b).v ρ h1).bnd (fun y h2 => (R.opt (opCmp o h2 x y) h2).bnd (fun t h3 =>
      if t then ((evE F G c).v ρ h3).bnd (fun z h4 => (R.opt (opCmp p h4 y z) h4).bnd (fun t h5 => .ok (.bl t) h5) ⟨⟩) ⟨⟩ else .ok (.bl false) h3) ⟨⟩) ⟨⟩) ⟨⟩ := by
  show _ = ((evE F G a).v ρ h).bind fun x h1 => ((evE F G b).v ρ h1).bind fun y h2 => (R.opt (opCmp o h2 x y) h2).bind fun t h3 =>
      if t then ((evE F G c).v ρ h3).bind fun z h4 => (R.opt (opCmp p h4 y z) h4).bind fun t h5 => .ok (D.bl t) h5 else .ok (D.bl false) h3
  simp only [← opt_map]; rfl
@[simp] theorem v_lcc (t : Tg) (it : I) (c e : E) : (evE F G (.lc t it c e)).v ρ h = (evI F G it ρ h).bnd (fun s h1 => if sizeOk s.items.length then lcLoop s.good (lcTurn t (evE F G c) (evE F G e) ρ) s.items [] h1 else .bad) ⟨⟩ := id rfl
@[simp] theorem v_tenum (a : E) : (evE F G (.tenum a)).v ρ h = ((evE F G a).v ρ h).bnd (fun x h1 => R.opt (tenumOp x) h1) ⟨⟩ := id rfl
/-! tests -/
@[simp] theorem t_and (a : E) (r : Es) : (evE F G (.and a r)).t ρ h = ((evE F G a).t ρ h).bnd (fun t h1 => if t then (evEs F G r).at_ ρ h1 else .ok false h1) ⟨⟩ := id rfl
@[simp] theorem t_or (a : E) (r : Es) : (evE F G (.or a r)).t ρ h = ((evE F G a).t ρ h).bnd (fun t h1 => if t then .ok true h1 else (evEs F G r).ot ρ h1) ⟨⟩ := id rfl
@[simp] theorem t_not (a : E) : (evE F G (.not a)).t ρ h = ((evE F G a).t ρ h).bnd (fun t h1 => .ok (!t) h1) ⟨⟩ := id rfl
@[simp] theorem t_ite (c a b : E) : (evE F G (.ite c a b)).t ρ h = ((evE F G c).t ρ h).bnd (fun t h1 => if t then (evE F G a).t ρ h1 else (evE F G b).t ρ h1) ⟨⟩ := id rfl
theorem t_cmp0 (o : COp) (a b : E) : (evE F G (.cmp o a b)).t ρ h = ((evE F G a).v ρ h).bind fun x h1 => ((evE F G b).v ρ h1).bind fun y h2 => R.opt (opCmp o h2 x y) h2 := by
  show R.bind (R.bind ((evE F G a).v ρ h) fun x h1 => R.bind ((evE F G b).v ρ h1) fun y h2 => R.opt ((opCmp o h2 x y).map D.bl) h2) _ = _
  rw [R.bind_assoc]
  congr 1; funext x h1
  rw [R.bind_assoc]
  congr 1; funext y h2
  cases opCmp o h2 x y <;> rfl
@[simp] theorem t_cmp (o : COp) (a b : E) : (evE F G (.cmp o a b)).t ρ h = ((evE F G a).v ρ h).bnd (fun x h1 => ((evE F G b).v ρ h1).bnd (fun y h2 => R.opt (opCmp o h2 x y) h2) ⟨⟩) ⟨⟩ := t_cmp0 o a b
theorem t_isi0 (a : E) (t : Ty) : (evE F G (.isi a t)).t ρ h = ((evE F G a).v ρ h).bind fun x h1 => if x.isF then .bad else .ok (opIsi t h1 x) h1 := by
  show R.bind (R.bind ((evE F G a).v ρ h) fun x h1 => if x.isF then .bad else .ok (D.bl (opIsi t h1 x)) h1) _ = _
  rw [R.bind_assoc]
  congr 1; funext x h1
  split <;> rfl
@[simp] theorem t_isi (a : E) (t : Ty) : (evE F G (.isi a t)).t ρ h = ((evE F G a).v ρ h).bnd (fun x h1 => if x.isF then .bad else .ok (opIsi t h1 x) h1) ⟨⟩ := t_isi0 a t
@[simp] theorem t_var (i : Nat) : (evE F G (.var i)).t ρ h = ((evE F G (.var i)).v ρ h).bnd (fun x h1 => R.opt (x.tru h1) h1) ⟨⟩ := id rfl
@[simp] theorem t_con (d : D) : (evE F G (.con d)).t ρ h = R.opt (d.tru h) h := id rfl
@[simp] theorem t_idx (a i : E) : (evE F G (.idx a i)).t ρ h = ((evE F G (.idx a i)).v ρ h).bnd (fun x h1 => R.opt (x.tru h1) h1) ⟨⟩ := id rfl
@[simp] theorem t_call (f : Nat) (es : Es) : (evE F G (.call f es)).t ρ h = ((evE F G (.call f es)).v ρ h).bnd (fun x h1 => R.opt (x.tru h1) h1) ⟨⟩ := id rfl
@[simp] theorem t_callK (f : Nat) (es kes : Es) (ks : List Nat) : (evE F G (.callK f es kes ks)).t ρ h = ((evE F G (.callK f es kes ks)).v ρ h).bnd (fun x h1 => R.opt (x.tru h1) h1) ⟨⟩ := id rfl
@[simp] theorem t_bf (f : Bf) (es : Es) : (evE F G (.bf f es)).t ρ h = ((evE F G (.bf f es)).v ρ h).bnd (fun x h1 => R.opt (x.tru h1) h1) ⟨⟩ := id rfl
@[simp] theorem t_bin (o : BOp) (a b : E) : (evE F G (.bin o a b)).t ρ h = ((evE F G (.bin o a b)).v ρ h).bnd (fun x h1 => R.opt (x.tru h1) h1) ⟨⟩ := id rfl
@[simp] theorem t_chain (o p : COp) (a b c : E) : (evE F G (.chain o p a b c)).t ρ h = ((evE F G (.chain o p a b c)).v ρ h).bnd (fun x h1 => R.opt (x.tru h1) h1) ⟨⟩ := id rfl
@[simp] theorem t_slc (a b c : E) : (evE F G (.slc a b c)).t ρ h = ((evE F G (.slc a b c)).v ρ h).bnd (fun x h1 => R.opt (x.tru h1) h1) ⟨⟩ := id rfl
/-! rows -/
@[simp] theorem l_nil : (evEs F G .nil).l ρ h = .ok [] h := id rfl
@[simp] theorem l_cons (e : E) (es : Es) : (evEs F G (.cons e es)).l ρ h = ((evE F G e).v ρ h).bnd (fun x h1 => ((evEs F G es).l ρ h1).bnd (fun xs h2 => .ok (x :: xs) h2) ⟨⟩) ⟨⟩ := id rfl
@[simp] theorem an_1 (e : E) : (evEs F G (.cons e .nil)).an ρ h = (evE F G e).v ρ h := id rfl
@[simp] theorem on_1 (e : E) : (evEs F G (.cons e .nil)).on ρ h = (evE F G e).v ρ h := id rfl
@[simp] theorem at_1 (e : E) : (evEs F G (.cons e .nil)).at_ ρ h = (evE F G e).t ρ h := id rfl
@[simp] theorem ot_1 (e : E) : (evEs F G (.cons e .nil)).ot ρ h = (evE F G e).t ρ h := id rfl
@[simp] theorem an_2 (e b : E) (es : Es) : (evEs F G (.cons e (.cons b es))).an ρ h = ((evE F G e).v ρ h).bnd (fun x h1 => (vBl x h1).bnd (fun t h2 => if t then (evEs F G (.cons b es)).an ρ h2 else .ok (.bl false) h2) ⟨⟩) ⟨⟩ := id rfl
@[simp] theorem on_2 (e b : E) (es : Es) : (evEs F G (.cons e (.cons b es))).on ρ h = ((evE F G e).v ρ h).bnd (fun x h1 => (vBl x h1).bnd (fun t h2 => if t then .ok (.bl true) h2 else (evEs F G (.cons b es)).on ρ h2) ⟨⟩) ⟨⟩ := id rfl
@[simp] theorem at_2 (e b : E) (es : Es) : (evEs F G (.cons e (.cons b es))).at_ ρ h = ((evE F G e).t ρ h).bnd (fun t h1 => if t then (evEs F G (.cons b es)).at_ ρ h1 else .ok false h1) ⟨⟩ := id rfl
@[simp] theorem ot_2 (e b : E) (es : Es) : (evEs F G (.cons e (.cons b es))).ot ρ h = ((evE F G e).t ρ h).bnd (fun t h1 => if t then .ok true h1 else (evEs F G (.cons b es)).ot ρ h1) ⟨⟩ := id rfl
/-! iterators -/
@[simp] theorem i_ev (e : E) : evI F G (.ev e) ρ h = ((evE F G e).v ρ h).bnd (fun x h1 => R.opt (x.src h1) h1) ⟨⟩ := id rfl
@[simp] theorem i_rng (n : E) : evI F G (.rng n) ρ h = ((evE F G n).v ρ h).bnd (fun x h1 => R.opt (x.isInt.bind fun n => if rngOk 0 n then some ⟨rngD 0 n, none⟩ else none) h1) ⟨⟩ := id rfl
@[simp] theorem i_zip (a b : E) : evI F G (.zip a b) ρ h = ((evE F G a).v ρ h).bnd (fun x h1 => ((evE F G b).v ρ h1).bnd (fun y h2 => R.opt (zipSrc x y) h2) ⟨⟩) ⟨⟩ := id rfl
/-! statements -/
@[simp] theorem s_nil : evSs F G .nil ρ h = .nxt ρ h := id rfl
@[simp] theorem s_cons (s : S) (ss : Ss) : evSs F G (.cons s ss) ρ h = (evS F G s ρ h).thn (evSs F G ss) ⟨⟩ := id rfl
@[simp] theorem s_asg (i : Nat) (e : E) : evS F G (.asg i e) ρ h = ((evE F G e).v ρ h).thn (fun x h1 => .nxt (ρ.set i (some x)) h1) ⟨⟩ := id rfl
@[simp] theorem s_asgLc (i : Nat) (e : E) : evS F G (.asgLc i e) ρ h = ((evE F G e).v ρ h).thn (fun x h1 => .nxt (ρ.set i (some x)) h1) ⟨⟩ := id rfl
@[simp] theorem s_par (i j : Nat) (a b : E) : evS F G (.par i j a b) ρ h = ((evE F G a).v ρ h).thn (fun x h1 => ((evE F G b).v ρ h1).thn (fun y h2 => .nxt ((ρ.set i (some x)).set j (some y)) h2) ⟨⟩) ⟨⟩ := id rfl
@[simp] theorem s_unp (is : List Nat) (e : E) : evS F G (.unp is e) ρ h = ((evE F G e).v ρ h).thn (fun x h1 => RS.opt ((Tg.tu is).put x ρ) h1) ⟨⟩ := id rfl
def R.thnX (r : R α) (ρ : Env) (f : α → Hh → RS) (_ : Lk f) : RS := r.thenX ρ f
@[simp] theorem thnX_ok (a : α) (h : Hh) (ρ : Env) (f : α → Hh → RS) (l : Lk f) : (R.ok a h).thnX ρ f l = f a h := id rfl
@[simp] theorem thnX_err (x : Xc) (h : Hh) (ρ : Env) (f : α → Hh → RS) (l : Lk f) : (R.err x h : R α).thnX ρ f l = .err ρ x h := id rfl
@[simp] theorem s_asgC (i f : Nat) (es : Es) : evS F G (.asgC i f es) ρ h = ((evEs F G es).l ρ h).thn (fun xs h1 => (F f xs h1).thnX ρ (fun x h2 => .nxt (ρ.set i (some x)) h2) ⟨⟩) ⟨⟩ := id rfl
@[simp] theorem s_expC (f : Nat) (es : Es) : evS F G (.expC f es) ρ h = ((evEs F G es).l ρ h).thn (fun xs h1 => (F f xs h1).thnX ρ (fun _ h2 => .nxt ρ h2) ⟨⟩) ⟨⟩ := id rfl
@[simp] theorem s_retC (f : Nat) (es : Es) : evS F G (.retC f es) ρ h = ((evEs F G es).l ρ h).thn (fun xs h1 => (F f xs h1).thnX ρ (fun x h2 => .ret x h2) ⟨⟩) ⟨⟩ := id rfl
@[simp] theorem s_raise (c : Str) : evS F G (.raise_ c) ρ h = .err ρ ⟨c, .non⟩ h := id rfl
@[simp] theorem s_try (b : Ss) (c : Str) (yes no : List Str) (s : Ss) : evS F G (.try_ b c yes no s) ρ h = catchS yes no (evSs F G s) (evSs F G b ρ h) := id rfl
@[simp] theorem catch_nxt (yes no : List Str) (f : Env → Hh → RS) (ρ : Env) (h : Hh) : catchS yes no f (.nxt ρ h) = .nxt ρ h := id rfl
@[simp] theorem catch_ret (yes no : List Str) (f : Env → Hh → RS) (d : D) (h : Hh) : catchS yes no f (.ret d h) = .ret d h := id rfl
@[simp] theorem catch_err (yes no : List Str) (f : Env → Hh → RS) (ρ : Env) (x : Xc) (h : Hh) : catchS yes no f (.err ρ x h) = if x.cls ∈ yes then f ρ h else if x.cls ∈ no then .err ρ x h else .bad := id rfl
def stoN (o : Option Hh) (ρ : Env) : RS := match o with
  | some h4 => .nxt ρ h4
  | none => .bad
@[simp] theorem stoN_some (h : Hh) (ρ : Env) : stoN (some h) ρ = .nxt ρ h := id rfl
@[simp] theorem s_sto (o i e : E) : evS F G (.sto o i e) ρ h = ((evE F G e).v ρ h).thn (fun x h1 => ((evE F G o).v ρ h1).thn (fun y h2 => ((evE F G i).v ρ h2).thn (fun z h3 => stoN (stoOp y z x h3) ρ) ⟨⟩) ⟨⟩) ⟨⟩ := id rfl
@[simp] theorem s_exp (e : E) : evS F G (.exp e) ρ h = ((evE F G e).v ρ h).thn (fun _ h1 => .nxt ρ h1) ⟨⟩ := id rfl
@[simp] theorem s_ret (e : E) : evS F G (.ret e) ρ h = ((evE F G e).v ρ h).thn (fun x h1 => .ret x h1) ⟨⟩ := id rfl
@[simp] theorem s_retN : evS F G .retN ρ h = .ret .non h := id rfl
@[simp] theorem s_ite (c : E) (a b : Ss) : evS F G (.ite c a b) ρ h = ((evE F G c).t ρ h).thn (fun t h1 => if t then evSs F G a ρ h1 else evSs F G b ρ h1) ⟨⟩ := id rfl
@[simp] theorem s_for (t : Tg) (it : I) (b : Ss) : evS F G (.for_ t it b) ρ h = (evI F G it ρ h).thn (fun s h1 => forLoop s.good t (evSs F G b) s.items ρ h1) ⟨⟩ := id rfl
@[simp] theorem s_whl (c : E) (b : Ss) : evS F G (.whl c b) ρ h = whlLoop (evE F G c).t (evSs F G b) wfuel ρ h := id rfl
def mIx (o : Option (List D)) (r : R (List D)) : R D := match o with
  | some ds => r.bind fun xs h2 => R.opt (idxD ds xs) h2
  | none => .bad
@[simp] theorem mIx_some (ds : List D) (r : R (List D)) : mIx (some ds) r = r.bnd (fun xs h2 => R.opt (idxD ds xs) h2) ⟨⟩ := id rfl
@[simp] theorem v_mthIx (o : E) (es : Es) : (evE F G (.mth .index o es)).v ρ h = ((evE F G o).v ρ h).bnd (fun x h1 => mIx x.ixs ((evEs F G es).l ρ h1)) ⟨⟩ := id rfl
@[simp] theorem v_mthAp (o : E) (es : Es) : (evE F G (.mth .append o es)).v ρ h = ((evE F G o).v ρ h).bnd (fun x h1 => if x.isL h1 then ((evEs F G es).l ρ h1).bnd (fun xs h2 => mthOp .append x xs h2) ⟨⟩ else .bad) ⟨⟩ := id rfl
@[simp] theorem v_mthPop (o : E) (es : Es) : (evE F G (.mth .pop o es)).v ρ h = ((evE F G o).v ρ h).bnd (fun x h1 => if x.isL h1 then ((evEs F G es).l ρ h1).bnd (fun xs h2 => mthOp .pop x xs h2) ⟨⟩ else .bad) ⟨⟩ := id rfl
@[simp] theorem v_mthPopA (o : E) (es : Es) : (evE F G (.mth .popAt o es)).v ρ h = ((evE F G o).v ρ h).bnd (fun x h1 => if x.isL h1 then ((evEs F G es).l ρ h1).bnd (fun xs h2 => mthOp .popAt x xs h2) ⟨⟩ else .bad) ⟨⟩ := id rfl
end
/-! operations -/
@[simp] theorem ofString_inj {a b : String} : (Str.ofString a = Str.ofString b) ↔ a = b := by
  refine ⟨fun e => ?_, fun e => by rw [e]⟩
  rw [Str.ofString_eq_toList, Str.ofString_eq_toList] at e
  have e1 : a.toList.map Char.toNat = b.toList.map Char.toNat := by
    have e2 := congrArg (fun s : Str => s.cps.toList) e
    simpa using e2
  have e3 : a.toList = b.toList := by
    have inj : ∀ (x y : List Char), x.map Char.toNat = y.map Char.toNat → x = y := by
      intro x
      induction x with
      | nil => intro y h; cases y with | nil => rfl | cons _ _ => simp at h
      | cons c x ih =>
        intro y h
        cases y with
        | nil => simp at h
        | cons d y =>
          (simp only [List.map_cons, List.cons.injEq] at h)
          rw [ih y h.2, Char.ext (UInt32.toNat_inj.mp h.1)]
    exact inj _ _ e1
  exact String.toList_inj.mp e3
section
variable {α : Type} {a b c d e : α} {xs : List α} {h : Hh}
@[simp] theorem atI_0 : L2.atI (a :: xs) 0 = some a := L2.atI_nat (j := 0) rfl
@[simp] theorem atI_1 : L2.atI (a :: b :: xs) 1 = some b := L2.atI_nat (j := 1) rfl
@[simp] theorem atI_2 : L2.atI (a :: b :: c :: xs) 2 = some c := L2.atI_nat (j := 2) rfl
@[simp] theorem atI_3 : L2.atI (a :: b :: c :: d :: xs) 3 = some d := L2.atI_nat (j := 3) rfl
@[simp] theorem atI_4 : L2.atI (a :: b :: c :: d :: e :: xs) 4 = some e := L2.atI_nat (j := 4) rfl
@[simp] theorem sizeOk_le {n : Nat} : sizeOk n = decide (n ≤ 16777216) := id rfl
@[simp] theorem bin_addI (i j : Int) : opBin .add h (.int i) (.int j) = some (.int (i + j)) := id rfl
@[simp] theorem bin_subI (i j : Int) : opBin .sub h (.int i) (.int j) = some (.int (i - j)) := id rfl
@[simp] theorem bin_addT (xs ys : List D) : opBin .add h (.tup xs) (.tup ys) = if sizeOk (xs.length + ys.length) then some (.tup (xs ++ ys)) else none := id rfl
@[simp] theorem bin_addL (xs ys : List D) : opBin .add h (.lst xs) (.lst ys) = if sizeOk (xs.length + ys.length) then some (.lst (xs ++ ys)) else none := id rfl
@[simp] theorem cmp_ltI (i j : Int) : opCmp .lt h (.int i) (.int j) = some (decide (i < j)) := id rfl
@[simp] theorem cmp_leI (i j : Int) : opCmp .le h (.int i) (.int j) = some (decide (i ≤ j)) := id rfl
@[simp] theorem cmp_gtI (i j : Int) : opCmp .gt h (.int i) (.int j) = some (decide (j < i)) := id rfl
@[simp] theorem cmp_geI (i j : Int) : opCmp .ge h (.int i) (.int j) = some (decide (j ≤ i)) := id rfl
@[simp] theorem cmp_eqS (x y : Str) : opCmp .eq h (.str x) (.str y) = some (decide (x = y)) := id rfl
@[simp] theorem cmp_neS (x y : Str) : opCmp .ne h (.str x) (.str y) = some (!decide (x = y)) := id rfl
@[simp] theorem cmp_eqI (i j : Int) : opCmp .eq h (.int i) (.int j) = some (i == j) := id rfl
@[simp] theorem cmp_neI (i j : Int) : opCmp .ne h (.int i) (.int j) = some (!(i == j)) := id rfl
@[simp] theorem cmp_eqB (i j : Bool) : opCmp .eq h (.bl i) (.bl j) = some (i == j) := by cases i <;> cases j <;> rfl
@[simp] theorem cmp_neB (i j : Bool) : opCmp .ne h (.bl i) (.bl j) = some (!(i == j)) := by cases i <;> cases j <;> rfl
@[simp] theorem cmp_isN (x : D) : opCmp .is h x .non = some x.isNon := id rfl
@[simp] theorem cmp_isB (x : D) (b : Bool) : opCmp .is h x (.bl b) = some (x.eqBl b) := id rfl
@[simp] theorem cmp_isnN (x : D) : opCmp .isn h x .non = some (!x.isNon) := id rfl
@[simp] theorem idx_tup (xs : List D) (i : Int) : opIdx h (.tup xs) (.int i) = L2.atI xs i := id rfl
@[simp] theorem idx_lst (xs : List D) (i : Int) : opIdx h (.lst xs) (.int i) = L2.atI xs i := id rfl
@[simp] theorem idx_fz (xs : List D) (i : Int) : opIdx h (.fz xs) (.int i) = L2.atI xs i := id rfl
@[simp] theorem vBl_bl (b : Bool) : vBl (.bl b) h = .ok b h := id rfl
@[simp] theorem tru_bl (b : Bool) : (D.bl b).tru h = some b := id rfl
@[simp] theorem tru_int (i : Int) : (D.int i).tru h = some (i != 0) := id rfl
@[simp] theorem tru_tup (xs : List D) : (D.tup xs).tru h = some (!xs.isEmpty) := id rfl
@[simp] theorem src_tup (xs : List D) : (D.tup xs).src h = some ⟨xs, none⟩ := id rfl
@[simp] theorem src_lst (xs : List D) : (D.lst xs).src h = some ⟨xs, none⟩ := id rfl
@[simp] theorem src_ftup (xs : List D) : (D.ftup xs).src h = some ⟨xs, none⟩ := id rfl
@[simp] theorem src_fz (xs : List D) : (D.fz xs).src h = some ⟨xs, none⟩ := id rfl
@[simp] theorem good_none (xs : List D) : (Src.mk xs none).good h = true := id rfl
@[simp] theorem goodf_none (xs : List D) : (Src.mk xs none).good = fun _ => true := id rfl
@[simp] theorem isI_int (i : Int) : (D.int i).isInt = some i := id rfl
@[simp] theorem bf_tupL (xs : List D) : opBf .tuple h [.lst xs] = some (.tup xs) := id rfl
@[simp] theorem bf_tupT (xs : List D) : opBf .tuple h [.tup xs] = some (.tup xs) := id rfl
@[simp] theorem bf_lenT (xs : List D) : opBf .len h [.tup xs] = some (.int xs.length) := id rfl
@[simp] theorem bf_lenL (xs : List D) : opBf .len h [.lst xs] = some (.int xs.length) := id rfl
@[simp] theorem bf_lenF (xs : List D) : opBf .len h [.fz xs] = some (.int xs.length) := id rfl
@[simp] theorem bf_intI (i : Int) : opBf .int h [.int i] = some (.int i) := id rfl
@[simp] theorem bf_intB (b : Bool) : opBf .int h [.bl b] = some (.int (if b then 1 else 0)) := id rfl
@[simp] theorem zip_tt (xs ys : List D) : zipSrc (.tup xs) (.tup ys) = some ⟨zipD xs ys, none⟩ := id rfl
@[simp] theorem zip_ll (xs ys : List D) : zipSrc (.lst xs) (.lst ys) = some ⟨zipD xs ys, none⟩ := id rfl
@[simp] theorem part_miss (p : P) (ρ : Env) : vPart true p ρ h = .ok none h := id rfl
@[simp] theorem part_some (p : P) (ρ : Env) : vPart false p ρ h = (p.v ρ h).bind fun d h1 => R.opt (d.isInt.map some) h1 := id rfl
@[simp] theorem miss_t : E.isMiss .miss = true := id rfl
@[simp] theorem miss_con (d : D) : E.isMiss (.con d) = false := id rfl
@[simp] theorem miss_var (d : Nat) : E.isMiss (.var d) = false := id rfl
@[simp] theorem miss_bin (o a b) : E.isMiss (.bin o a b) = false := id rfl
@[simp] theorem miss_neg (a) : E.isMiss (.neg a) = false := id rfl
@[simp] theorem in_nil (x : D) : opCmp .inn h x (.tup []) = (if x.shp then some false else none) := by
  show (if x.shp && (D.tup []).shp then some false else none) = _
  have : (D.tup []).shp = true := by decide
  rw [this, Bool.and_true]
@[simp] theorem strOk_lit (s : String) : PyData.strOk (Str.ofString s) = true := by
  rw [Str.ofString_eq_toList]
  unfold PyData.strOk
  simp only [List.all_toArray, List.all_map, List.all_eq_true, Function.comp]
  intro c _
  have hv : c.val.toNat.isValidChar := c.valid
  have : c.val.toNat < 1114112 := by
    rcases hv with z | z
    · omega
    · exact z.2
  exact decide_eq_true this
@[simp] theorem eqv_str (x y : Str) : (D.str x).eqv (.str y) = decide (x = y) := id rfl
@[simp] theorem eqv_int (x y : Int) : (D.int x).eqv (.int y) = (x == y) := id rfl
@[simp] theorem shp_str (x : Str) : (D.str x).shp = PyData.strOk x := by unfold D.shp D.lay D.dep; simp
@[simp] theorem shp_int (x : Int) : (D.int x).shp = true := id rfl
@[simp] theorem shp_bl (x : Bool) : (D.bl x).shp = true := id rfl
@[simp] theorem shp_non : D.non.shp = true := id rfl
theorem deps_le {n : Nat} : ∀ {xs : List D}, D.deps xs ≤ n ↔ ∀ x ∈ xs, x.dep ≤ n
  | [] => by simp [D.deps]
  | x :: xs => by simp [D.deps, Nat.max_le, deps_le (xs := xs)]
theorem lays_iff : ∀ {xs : List D}, D.lays xs = true ↔ ∀ x ∈ xs, x.lay = true
  | [] => by simp [D.lays]
  | x :: xs => by simp [D.lays, lays_iff (xs := xs)]
/-- a flat thing -/
def D.flat : D → Bool
  | .str x => PyData.strOk x
  | .int _ => true
  | .bl _ => true
  | .non => true
  | _ => false
theorem shp_flats {xs : List D} (h : xs.all D.flat = true) : (D.tup xs).shp = true := by
  have q : ∀ x ∈ xs, x.lay = true ∧ x.dep = 0 := fun x hx => by
    have := List.all_eq_true.mp h x hx
    cases x <;> first | exact ⟨rfl, rfl⟩ | exact ⟨this, rfl⟩ | cases this
  unfold D.shp D.lay D.dep
  rw [lays_iff.mpr fun x hx => (q x hx).1, Bool.true_and]
  have : D.deps xs ≤ 0 := deps_le.mpr fun x hx => Nat.le_of_eq (q x hx).2
  (exact decide_eq_true (by omega))
@[simp] theorem shp_strs0 : (D.tup []).shp = true := by decide
@[simp] theorem flat_str (x : Str) : (D.str x).flat = PyData.strOk x := id rfl
@[simp] theorem flat_int (x : Int) : (D.int x).flat = true := id rfl
theorem in_tup (x : D) (ys : List D) : opCmp .inn h x (.tup ys) = if x.shp && (D.tup ys).shp then some (ys.any fun y => y.eqv x) else none := id rfl
theorem nin_eq (x : D) (y : D) : opCmp .nin h x y = (opCmp .inn h x y).map (!·) := id rfl
@[simp] theorem in_strs1 (x y : Str) : opCmp .inn h (.str x) (.tup [.str y]) = if PyData.strOk x && (D.tup [.str y]).shp then some (decide (y = x)) else none := by rw [in_tup]; simp
@[simp] theorem in_strs2 (x : Str) (a b : String) : opCmp .inn h (.str x) (.tup [.str (.ofString a), .str (.ofString b)]) = if PyData.strOk x then some (decide (Str.ofString a = x) || decide (Str.ofString b = x)) else none := by rw [in_tup, shp_flats (by simp)]; simp
@[simp] theorem in_strs3 (x : Str) (a b c : String) : opCmp .inn h (.str x) (.tup [.str (.ofString a), .str (.ofString b), .str (.ofString c)]) = if PyData.strOk x then some (decide (Str.ofString a = x) || (decide (Str.ofString b = x) || decide (Str.ofString c = x))) else none := by rw [in_tup, shp_flats (by simp)]; simp
@[simp] theorem nin_strs2 (x : Str) (a b : String) : opCmp .nin h (.str x) (.tup [.str (.ofString a), .str (.ofString b)]) = if PyData.strOk x then some (!(decide (Str.ofString a = x) || decide (Str.ofString b = x))) else none := by rw [nin_eq, in_strs2]; split <;> rfl
@[simp] theorem nin_strs3 (x : Str) (a b c : String) : opCmp .nin h (.str x) (.tup [.str (.ofString a), .str (.ofString b), .str (.ofString c)]) = if PyData.strOk x then some (!(decide (Str.ofString a = x) || (decide (Str.ofString b = x) || decide (Str.ofString c = x)))) else none := by rw [nin_eq, in_strs3]; split <;> rfl
@[simp] theorem opt_ite {c : Prop} [Decidable c] {o p : Option α} : R.opt (if c then o else p) h = if c then R.opt o h else R.opt p h := by split <;> rfl
@[simp] theorem slc_tup (xs : List D) (l u : Option Int) : opSlc h (.tup xs) l u = some (.tup (cutD xs l u)) := id rfl
@[simp] theorem slc_lst (xs : List D) (l u : Option Int) : opSlc h (.lst xs) l u = some (.lst (cutD xs l u)) := id rfl
@[simp] theorem cut_1 (x : D) (xs : List D) : cutD (x :: xs) (some 1) none = xs := by
  have e : HT.sIx (xs.length + 1) 0 (some 1) = 1 := by show min (1 : Int).toNat (xs.length + 1) = 1; simp
  unfold cutD; simp only [List.length_cons, e, HT.sIx_none, List.drop_succ_cons, List.drop_zero, Nat.add_sub_cancel, List.take_length]
@[simp] theorem cut_2 (x y : D) (xs : List D) : cutD (x :: y :: xs) (some 2) none = xs := by
  have e : HT.sIx (xs.length + 1 + 1) 0 (some 2) = 2 := by show min (2 : Int).toNat (xs.length + 1 + 1) = 2; simp
  unfold cutD; simp only [List.length_cons, e, HT.sIx_none, List.drop_succ_cons, List.drop_zero]
  rw [show xs.length + 1 + 1 - 2 = xs.length from by omega, List.take_length]
@[simp] theorem cut_3 (x y z : D) (xs : List D) : cutD (x :: y :: z :: xs) (some 3) none = xs := by
  have e : HT.sIx (xs.length + 1 + 1 + 1) 0 (some 3) = 3 := by show min (3 : Int).toNat (xs.length + 1 + 1 + 1) = 3; simp
  unfold cutD; simp only [List.length_cons, e, HT.sIx_none, List.drop_succ_cons, List.drop_zero]
  rw [show xs.length + 1 + 1 + 1 - 3 = xs.length from by omega, List.take_length]
theorem cut_all (xs : List D) : cutD xs none none = xs := by
  unfold cutD; simp only [HT.sIx_none, List.drop_zero, Nat.sub_zero, List.take_length]
theorem cut_take (xs : List D) (n : Nat) : cutD xs none (some (n : Int)) = xs.take n := by
  unfold cutD; rw [HT.sIx_none, HT.sIx_nat, List.drop_zero, Nat.sub_zero, List.take_eq_take_iff]; omega
theorem cut_drop (xs : List D) (n : Nat) : cutD xs (some (n : Int)) none = xs.drop n := by
  unfold cutD; rw [HT.sIx_none, HT.sIx_nat]
  by_cases hn : n ≤ xs.length
  · rw [Nat.min_eq_left hn, List.take_of_length_le (by simp)]
  · rw [Nat.min_eq_right (by omega), List.drop_of_length_le (Nat.le_refl _), List.drop_of_length_le (by omega), List.take_nil]
@[simp] theorem cut_init (xs : List D) (x : D) : cutD (xs ++ [x]) none (some (-1)) = xs := by
  have e : HT.sIx (xs ++ [x]).length (xs ++ [x]).length (some (-1)) = xs.length := by
    show ((-1 : Int) + ((xs ++ [x]).length : Int)).toNat = _
    rw [List.length_append]; simp only [List.length_cons, List.length_nil]; omega
  unfold cutD
  rw [e, HT.sIx_none, List.drop_zero, Nat.sub_zero, List.take_left']
  rfl
@[simp] theorem atI_last (xs : List α) (v : α) : L2.atI (xs ++ [v]) (-1) = some v := L2.atI_last xs v
end
end PV
end

section
set_option maxRecDepth 100000
namespace K22
open PySem PySem.Spec PyProof.Rows L2 PV
abbrev b_is_integer : Ss := .cons (.ret (.and (.isi (.var 0) .int) (.cons (.not (.isi (.var 0) .bl)) .nil))) .nil
abbrev f_is_integer : Fn := { name := "is_integer", N := ["value"], P := ["value"], frz := false, body := b_is_integer }
abbrev b_is_tuple_of : Ss := .cons (.ret (.and (.isi (.var 1) .tup) (.cons (.cmp .eq (.bf .len (.cons (.var 1) .nil)) (.var 0)) .nil))) .nil
abbrev f_is_tuple_of : Fn := { name := "is_tuple_of", N := ["length", "value"], P := ["length", "value"], frz := false, body := b_is_tuple_of }
abbrev i_is_kinds_0 : I := .ev (.var 0)
abbrev x_is_kinds_0 : E := .and (.isi (.var 1) .tup) (.cons (.cmp .ne (.var 1) (.tup (.nil))) .nil)
abbrev c_is_kinds_0 : E := .miss
abbrev e_is_kinds_0 : E := .lc (.v 1) i_is_kinds_0 c_is_kinds_0 x_is_kinds_0
abbrev i_is_kinds_1 : I := .ev (.var 0)
abbrev x_is_kinds_1 : E := .isi (.idx (.var 1) (.con (.int 0))) .str
abbrev c_is_kinds_1 : E := .miss
abbrev e_is_kinds_1 : E := .lc (.v 1) i_is_kinds_1 c_is_kinds_1 x_is_kinds_1
abbrev b_is_kinds : Ss := .cons (.ite (.or (.not (.isi (.var 0) .tup)) (.cons (.not (.bf .all (.cons (e_is_kinds_0) .nil))) .nil)) (.cons (.ret (.con (.bl false))) .nil) (.nil)) (.cons (.ret (.bf .all (.cons (e_is_kinds_1) .nil))) .nil)
abbrev f_is_kinds : Fn := { name := "is_kinds", N := ["value", "k"], P := ["value"], frz := false, body := b_is_kinds }
abbrev i_is_pairs_0 : I := .ev (.var 0)
abbrev x_is_pairs_0 : E := .call 1 (.cons (.con (.int 2)) (.cons (.var 1) .nil))
abbrev c_is_pairs_0 : E := .miss
abbrev e_is_pairs_0 : E := .lc (.v 1) i_is_pairs_0 c_is_pairs_0 x_is_pairs_0
abbrev b_is_pairs : Ss := .cons (.ret (.and (.isi (.var 0) .tup) (.cons (.bf .all (.cons (e_is_pairs_0) .nil)) .nil))) .nil
abbrev f_is_pairs : Fn := { name := "is_pairs", N := ["value", "pair"], P := ["value"], frz := false, body := b_is_pairs }
abbrev i_has_form_0 : I := .ev (.idx (.var 2) (.con (.int 0)))
abbrev x_has_form_0 : E := .isi (.idx (.var 3) (.con (.int 1))) .bl
abbrev c_has_form_0 : E := .miss
abbrev e_has_form_0 : E := .lc (.v 3) i_has_form_0 c_has_form_0 x_has_form_0
abbrev i_has_form_1 : I := .ev (.idx (.var 2) (.con (.int 1)))
abbrev x_has_form_1 : E := .idx (.var 3) (.con (.int 0))
abbrev c_has_form_1 : E := .miss
abbrev e_has_form_1 : E := .lc (.v 3) i_has_form_1 c_has_form_1 x_has_form_1
abbrev b_has_form : Ss := .cons (.par 1 2 (.idx (.var 0) (.con (.int 0))) (.slc (.var 0) (.con (.int 1)) (.miss))) (.cons (.ite (.cmp .eq (.var 1) (.con (.str "int"))) (.cons (.ret (.cmp .eq (.var 2) (.tup (.nil)))) .nil) (.nil)) (.cons (.ite (.cmp .inn (.var 1) (.tup (.cons (.con (.str "free")) (.cons (.con (.str "var")) .nil)))) (.cons (.ret (.and (.cmp .eq (.bf .len (.cons (.var 2) .nil)) (.con (.int 1))) (.cons (.call 0 (.cons (.idx (.var 2) (.con (.int 0))) .nil)) (.cons (.cmp .ge (.idx (.var 2) (.con (.int 0))) (.con (.int 0))) .nil)))) .nil) (.nil)) (.cons (.ite (.cmp .inn (.var 1) (.tup (.cons (.con (.str "cell")) (.cons (.con (.str "some")) (.cons (.con (.str "rec")) .nil))))) (.cons (.ret (.and (.cmp .eq (.bf .len (.cons (.var 2) .nil)) (.con (.int 1))) (.cons (.call 2 (.cons (.var 2) .nil)) (.cons (.or (.cmp .ne (.var 1) (.con (.str "rec"))) (.cons (.cmp .nin (.idx (.idx (.var 2) (.con (.int 0))) (.con (.int 0))) (.tup (.cons (.con (.str "free")) (.cons (.con (.str "var")) .nil)))) .nil)) .nil)))) .nil) (.nil)) (.cons (.ite (.cmp .inn (.var 1) (.tup (.cons (.con (.str "row")) (.cons (.con (.str "one")) .nil)))) (.cons (.ret (.and (.cmp .eq (.bf .len (.cons (.var 2) .nil)) (.con (.int 1))) (.cons (.call 2 (.cons (.idx (.var 2) (.con (.int 0))) .nil)) (.cons (.or (.cmp .eq (.var 1) (.con (.str "row"))) (.cons (.cmp .ne (.idx (.var 2) (.con (.int 0))) (.tup (.nil))) .nil)) .nil)))) .nil) (.nil)) (.cons (.ite (.cmp .eq (.var 1) (.con (.str "room"))) (.cons (.ret (.and (.cmp .eq (.bf .len (.cons (.var 2) .nil)) (.con (.int 1))) (.cons (.call 3 (.cons (.idx (.var 2) (.con (.int 0))) .nil)) (.cons (.bf .all (.cons (e_has_form_0) .nil)) .nil)))) .nil) (.nil)) (.cons (.ite (.or (.cmp .nin (.var 1) (.tup (.cons (.con (.str "not")) (.cons (.con (.str "to")) (.cons (.con (.str "code")) .nil))))) (.cons (.cmp .ne (.bf .len (.cons (.var 2) .nil)) (.bin .add (.con (.int 2)) (.bf .int (.cons (.cmp .eq (.var 1) (.con (.str "to"))) .nil)))) .nil)) (.cons (.ret (.con (.bl false))) .nil) (.nil)) (.cons (.ite (.or (.not (.call 0 (.cons (.idx (.var 2) (.con (.int 0))) .nil))) (.cons (.not (.chain .le .le (.con (.int 0)) (.idx (.var 2) (.con (.int 0))) (.glo 0))) .nil)) (.cons (.ret (.con (.bl false))) .nil) (.nil)) (.cons (.ite (.cmp .eq (.var 1) (.con (.str "code"))) (.cons (.ret (.and (.call 3 (.cons (.idx (.var 2) (.con (.int 1))) .nil)) (.cons (.call 5 (.cons (e_has_form_1) .nil)) .nil))) .nil) (.nil)) (.cons (.ret (.and (.call 2 (.cons (.idx (.var 2) (.con (.int 1))) .nil)) (.cons (.call 2 (.cons (.slc (.var 2) (.con (.int 2)) (.miss)) .nil)) .nil))) .nil)))))))))
abbrev f_has_form : Fn := { name := "has_form", N := ["value", "word", "rest", "pair"], P := ["value"], frz := false, body := b_has_form }
abbrev i_is_rising_0 : I := .ev (.var 0)
abbrev x_is_rising_0 : E := .and (.call 0 (.cons (.var 1) .nil)) (.cons (.cmp .ge (.var 1) (.con (.int 0))) .nil)
abbrev c_is_rising_0 : E := .miss
abbrev e_is_rising_0 : E := .lc (.v 1) i_is_rising_0 c_is_rising_0 x_is_rising_0
abbrev i_is_rising_1 : I := .rng (.bin .sub (.bf .len (.cons (.var 0) .nil)) (.con (.int 1)))
abbrev x_is_rising_1 : E := .cmp .lt (.idx (.var 0) (.var 2)) (.idx (.var 0) (.bin .add (.var 2) (.con (.int 1))))
abbrev c_is_rising_1 : E := .miss
abbrev e_is_rising_1 : E := .lc (.v 2) i_is_rising_1 c_is_rising_1 x_is_rising_1
abbrev b_is_rising : Ss := .cons (.ite (.not (.bf .all (.cons (e_is_rising_0) .nil))) (.cons (.ret (.con (.bl false))) .nil) (.nil)) (.cons (.ret (.bf .all (.cons (e_is_rising_1) .nil))) .nil)
abbrev f_is_rising : Fn := { name := "is_rising", N := ["numbers", "number", "k"], P := ["numbers"], frz := false, body := b_is_rising }
abbrev i_insides_0 : I := .ev (.idx (.var 0) (.con (.int 1)))
abbrev x_insides_0 : E := .var 2
abbrev c_insides_0 : E := .miss
abbrev e_insides_0 : E := .lc (.tu [2, 3]) i_insides_0 c_insides_0 x_insides_0
abbrev i_insides_1 : I := .ev (.idx (.var 0) (.con (.int 2)))
abbrev x_insides_1 : E := .var 2
abbrev c_insides_1 : E := .miss
abbrev e_insides_1 : E := .lc (.tu [4, 2]) i_insides_1 c_insides_1 x_insides_1
abbrev b_insides : Ss := .cons (.asg 1 (.idx (.var 0) (.con (.int 0)))) (.cons (.ite (.cmp .inn (.var 1) (.tup (.cons (.con (.str "cell")) (.cons (.con (.str "some")) (.cons (.con (.str "rec")) .nil))))) (.cons (.ret (.tup (.cons (.idx (.var 0) (.con (.int 1))) .nil))) .nil) (.nil)) (.cons (.ite (.cmp .inn (.var 1) (.tup (.cons (.con (.str "row")) (.cons (.con (.str "one")) .nil)))) (.cons (.ret (.idx (.var 0) (.con (.int 1)))) .nil) (.nil)) (.cons (.ite (.cmp .eq (.var 1) (.con (.str "room"))) (.cons (.ret (.bf .tuple (.cons (e_insides_0) .nil))) .nil) (.nil)) (.cons (.ite (.cmp .eq (.var 1) (.con (.str "code"))) (.cons (.ret (.bf .tuple (.cons (e_insides_1) .nil))) .nil) (.nil)) (.cons (.ite (.cmp .eq (.var 1) (.con (.str "to"))) (.cons (.ret (.bin .add (.idx (.var 0) (.con (.int 2))) (.tup (.cons (.idx (.var 0) (.con (.int 3))) .nil)))) .nil) (.nil)) (.cons (.ret (.ite (.cmp .eq (.var 1) (.con (.str "not"))) (.idx (.var 0) (.con (.int 2))) (.tup (.nil)))) .nil))))))
abbrev f_insides : Fn := { name := "insides", N := ["kind", "word", "k", "is_set", "spot"], P := ["kind"], frz := false, body := b_insides }
abbrev b_binds : Ss := .cons (.ite (.cmp .inn (.idx (.var 0) (.con (.int 0))) (.tup (.cons (.con (.str "some")) (.cons (.con (.str "rec")) .nil)))) (.cons (.ret (.con (.int 1))) .nil) (.nil)) (.cons (.ret (.ite (.cmp .inn (.idx (.var 0) (.con (.int 0))) (.tup (.cons (.con (.str "not")) (.cons (.con (.str "to")) (.cons (.con (.str "code")) .nil))))) (.idx (.var 0) (.con (.int 1))) (.con (.int 0)))) .nil)
abbrev f_binds : Fn := { name := "binds", N := ["kind"], P := ["kind"], frz := false, body := b_binds }
abbrev i_with_insides_0 : I := .zip (.var 1) (.idx (.var 0) (.con (.int 1)))
abbrev x_with_insides_0 : E := .tup (.cons (.var 3) (.cons (.idx (.var 4) (.con (.int 1))) .nil))
abbrev c_with_insides_0 : E := .miss
abbrev e_with_insides_0 : E := .lc (.tu [3, 4]) i_with_insides_0 c_with_insides_0 x_with_insides_0
abbrev i_with_insides_1 : I := .zip (.var 1) (.idx (.var 0) (.con (.int 2)))
abbrev x_with_insides_1 : E := .tup (.cons (.idx (.var 4) (.con (.int 0))) (.cons (.var 3) .nil))
abbrev c_with_insides_1 : E := .miss
abbrev e_with_insides_1 : E := .lc (.tu [3, 4]) i_with_insides_1 c_with_insides_1 x_with_insides_1
abbrev b_with_insides : Ss := .cons (.asg 2 (.idx (.var 0) (.con (.int 0)))) (.cons (.ite (.cmp .inn (.var 2) (.tup (.cons (.con (.str "cell")) (.cons (.con (.str "some")) (.cons (.con (.str "rec")) .nil))))) (.cons (.ret (.tup (.cons (.var 2) (.cons (.idx (.var 1) (.con (.int 0))) .nil)))) .nil) (.nil)) (.cons (.ite (.cmp .inn (.var 2) (.tup (.cons (.con (.str "row")) (.cons (.con (.str "one")) .nil)))) (.cons (.ret (.tup (.cons (.var 2) (.cons (.var 1) .nil)))) .nil) (.nil)) (.cons (.ite (.cmp .eq (.var 2) (.con (.str "room"))) (.cons (.ret (.tup (.cons (.con (.str "room")) (.cons (.bf .tuple (.cons (e_with_insides_0) .nil)) .nil)))) .nil) (.nil)) (.cons (.ite (.cmp .eq (.var 2) (.con (.str "code"))) (.cons (.ret (.tup (.cons (.con (.str "code")) (.cons (.idx (.var 0) (.con (.int 1))) (.cons (.bf .tuple (.cons (e_with_insides_1) .nil)) .nil))))) .nil) (.nil)) (.cons (.ite (.cmp .eq (.var 2) (.con (.str "to"))) (.cons (.ret (.tup (.cons (.con (.str "to")) (.cons (.idx (.var 0) (.con (.int 1))) (.cons (.slc (.var 1) (.miss) (.neg (.con (.int 1)))) (.cons (.idx (.var 1) (.neg (.con (.int 1)))) .nil)))))) .nil) (.nil)) (.cons (.ret (.ite (.cmp .eq (.var 2) (.con (.str "not"))) (.tup (.cons (.con (.str "not")) (.cons (.idx (.var 0) (.con (.int 1))) (.cons (.var 1) .nil)))) (.var 0))) .nil))))))
abbrev f_with_insides : Fn := { name := "with_insides", N := ["kind", "new", "word", "k", "pair"], P := ["kind", "new"], frz := false, body := b_with_insides }
abbrev i_is_kind_below_0 : I := .ev (.call 6 (.cons (.var 0) .nil))
abbrev x_is_kind_below_0 : E := .call 9 (.cons (.var 4) (.cons (.var 1) (.cons (.bin .add (.var 2) (.call 7 (.cons (.var 0) .nil))) (.cons (.var 3) .nil))))
abbrev c_is_kind_below_0 : E := .miss
abbrev e_is_kind_below_0 : E := .lc (.v 4) i_is_kind_below_0 c_is_kind_below_0 x_is_kind_below_0
abbrev b_is_kind_below : Ss := .cons (.ite (.or (.not (.call 2 (.cons (.tup (.cons (.var 0) .nil)) .nil))) (.cons (.cmp .nin (.idx (.var 0) (.con (.int 0))) (.bin .add (.var 3) (.tup (.cons (.con (.str "free")) (.cons (.con (.str "var")) .nil))))) (.cons (.not (.call 4 (.cons (.var 0) .nil))) .nil))) (.cons (.ret (.con (.bl false))) .nil) (.nil)) (.cons (.ite (.cmp .inn (.idx (.var 0) (.con (.int 0))) (.tup (.cons (.con (.str "free")) (.cons (.con (.str "var")) .nil)))) (.cons (.ret (.cmp .lt (.idx (.var 0) (.con (.int 1))) (.ite (.cmp .eq (.idx (.var 0) (.con (.int 0))) (.con (.str "free"))) (.var 1) (.var 2)))) .nil) (.nil)) (.cons (.ret (.bf .all (.cons (e_is_kind_below_0) .nil))) .nil))
abbrev f_is_kind_below : Fn := { name := "is_kind_below", N := ["value", "free", "under", "words", "k"], P := ["value", "free", "under", "words"], frz := false, body := b_is_kind_below }
abbrev b_is_kind : Ss := .cons (.ret (.call 9 (.cons (.var 1) (.cons (.var 0) (.cons (.con (.int 0)) (.cons (.var 2) .nil)))))) .nil
abbrev f_is_kind : Fn := { name := "is_kind", N := ["free", "value", "words"], P := ["free", "value", "words"], frz := false, body := b_is_kind }
abbrev i_put_below_0 : I := .ev (.call 6 (.cons (.var 0) .nil))
abbrev x_put_below_0 : E := .call 11 (.cons (.var 5) (.cons (.var 4) (.cons (.var 2) .nil)))
abbrev c_put_below_0 : E := .miss
abbrev e_put_below_0 : E := .lc (.v 5) i_put_below_0 c_put_below_0 x_put_below_0
abbrev b_put_below : Ss := .cons (.ite (.cmp .eq (.idx (.var 0) (.con (.int 0))) (.con (.str "var"))) (.cons (.asg 3 (.bin .sub (.idx (.var 0) (.con (.int 1))) (.var 1))) (.cons (.ite (.cmp .lt (.var 3) (.con (.int 0))) (.cons (.ret (.var 0)) .nil) (.nil)) (.cons (.ret (.ite (.cmp .lt (.var 3) (.bf .len (.cons (.var 2) .nil))) (.idx (.var 2) (.var 3)) (.tup (.cons (.con (.str "var")) (.cons (.bin .sub (.idx (.var 0) (.con (.int 1))) (.bf .len (.cons (.var 2) .nil))) .nil))))) .nil))) (.nil)) (.cons (.asg 4 (.bin .add (.var 1) (.call 7 (.cons (.var 0) .nil)))) (.cons (.ret (.call 8 (.cons (.var 0) (.cons (.bf .tuple (.cons (e_put_below_0) .nil)) .nil)))) .nil))
abbrev f_put_below : Fn := { name := "put_below", N := ["kind", "under", "kinds", "at", "more", "k"], P := ["kind", "under", "kinds"], frz := false, body := b_put_below }
abbrev i_opened_0 : I := .ev (.call 6 (.cons (.var 0) .nil))
abbrev x_opened_0 : E := .call 11 (.cons (.var 3) (.cons (.con (.int 0)) (.cons (.var 1) .nil)))
abbrev c_opened_0 : E := .miss
abbrev e_opened_0 : E := .lc (.v 3) i_opened_0 c_opened_0 x_opened_0
abbrev b_opened : Ss := .cons (.asg 2 (.call 8 (.cons (.var 0) (.cons (.bf .tuple (.cons (e_opened_0) .nil)) .nil)))) (.cons (.ite (.cmp .inn (.idx (.var 0) (.con (.int 0))) (.tup (.cons (.con (.str "some")) (.cons (.con (.str "rec")) .nil)))) (.cons (.ret (.idx (.var 2) (.con (.int 1)))) .nil) (.nil)) (.cons (.ret (.ite (.cmp .eq (.idx (.var 0) (.con (.int 0))) (.con (.str "to"))) (.tup (.cons (.idx (.var 2) (.con (.int 2))) (.cons (.idx (.var 2) (.con (.int 3))) .nil))) (.idx (.var 2) (.con (.int 2))))) .nil))
abbrev f_opened : Fn := { name := "opened", N := ["kind", "kinds", "inside", "k"], P := ["kind", "kinds"], frz := false, body := b_opened }
abbrev i_shut_below_0 : I := .ev (.call 6 (.cons (.var 0) .nil))
abbrev x_shut_below_0 : E := .call 13 (.cons (.var 4) (.cons (.var 3) (.cons (.var 2) .nil)))
abbrev c_shut_below_0 : E := .miss
abbrev e_shut_below_0 : E := .lc (.v 4) i_shut_below_0 c_shut_below_0 x_shut_below_0
abbrev b_shut_below : Ss := .cons (.ite (.cmp .eq (.idx (.var 0) (.con (.int 0))) (.con (.str "free"))) (.cons (.ret (.ite (.cmp .inn (.idx (.var 0) (.con (.int 1))) (.var 2)) (.tup (.cons (.con (.str "var")) (.cons (.bin .add (.var 1) (.mth .index (.var 2) (.cons (.idx (.var 0) (.con (.int 1))) .nil))) .nil))) (.var 0))) .nil) (.nil)) (.cons (.ite (.cmp .eq (.idx (.var 0) (.con (.int 0))) (.con (.str "var"))) (.cons (.ret (.ite (.cmp .lt (.idx (.var 0) (.con (.int 1))) (.var 1)) (.var 0) (.tup (.cons (.con (.str "var")) (.cons (.bin .add (.idx (.var 0) (.con (.int 1))) (.bf .len (.cons (.var 2) .nil))) .nil))))) .nil) (.nil)) (.cons (.asg 3 (.bin .add (.var 1) (.call 7 (.cons (.var 0) .nil)))) (.cons (.ret (.call 8 (.cons (.var 0) (.cons (.bf .tuple (.cons (e_shut_below_0) .nil)) .nil)))) .nil)))
abbrev f_shut_below : Fn := { name := "shut_below", N := ["kind", "under", "order", "more", "k"], P := ["kind", "under", "order"], frz := false, body := b_shut_below }
abbrev b_shut : Ss := .cons (.ret (.call 13 (.cons (.var 0) (.cons (.con (.int 0)) (.cons (.var 1) .nil))))) .nil
abbrev f_shut : Fn := { name := "shut", N := ["kind", "order"], P := ["kind", "order"], frz := false, body := b_shut }
abbrev i_filled_0 : I := .ev (.call 6 (.cons (.var 0) .nil))
abbrev x_filled_0 : E := .call 15 (.cons (.var 2) (.cons (.var 1) .nil))
abbrev c_filled_0 : E := .miss
abbrev e_filled_0 : E := .lc (.v 2) i_filled_0 c_filled_0 x_filled_0
abbrev b_filled : Ss := .cons (.ite (.cmp .eq (.idx (.var 0) (.con (.int 0))) (.con (.str "free"))) (.cons (.ret (.idx (.var 1) (.idx (.var 0) (.con (.int 1))))) .nil) (.nil)) (.cons (.ret (.call 8 (.cons (.var 0) (.cons (.bf .tuple (.cons (e_filled_0) .nil)) .nil)))) .nil)
abbrev f_filled : Fn := { name := "filled", N := ["kind", "kinds", "k"], P := ["kind", "kinds"], frz := false, body := b_filled }
abbrev i_turned_0 : I := .ev (.call 6 (.cons (.var 0) .nil))
abbrev x_turned_0 : E := .call 16 (.cons (.var 2) .nil)
abbrev c_turned_0 : E := .miss
abbrev e_turned_0 : E := .lc (.v 2) i_turned_0 c_turned_0 x_turned_0
abbrev b_turned : Ss := .cons (.asg 1 (.bf .tuple (.cons (e_turned_0) .nil))) (.cons (.ite (.cmp .ne (.idx (.var 0) (.con (.int 0))) (.con (.str "to"))) (.cons (.ret (.call 8 (.cons (.var 0) (.cons (.var 1) .nil)))) .nil) (.nil)) (.cons (.ret (.tup (.cons (.con (.str "not")) (.cons (.idx (.var 0) (.con (.int 1))) (.cons (.bin .add (.slc (.var 1) (.miss) (.neg (.con (.int 1)))) (.tup (.cons (.tup (.cons (.con (.str "not")) (.cons (.con (.int 0)) (.cons (.slc (.var 1) (.neg (.con (.int 1))) (.miss)) .nil)))) .nil))) .nil))))) .nil))
abbrev f_turned : Fn := { name := "turned", N := ["kind", "inside", "one"], P := ["kind"], frz := false, body := b_turned }
abbrev b_carried : Ss := .cons (.ite (.not (.call 10 (.cons (.glo 2) (.cons (.var 0) (.cons (.glo 1) .nil))))) (.cons (.raise_ "InvalidKind") .nil) (.nil)) (.cons (.ret (.call 16 (.cons (.var 0) .nil))) .nil)
abbrev f_carried : Fn := { name := "carried", N := ["kind"], P := ["kind"], frz := false, body := b_carried, kw := [(0, ["kind"], [0])] }
abbrev b__law_well : Ss := .cons (.asg 1 (.bf .int (.cons (.var 0) .nil))) (.cons (.ret (.new (.lst (.cons (.bf .max2 (.cons (.con (.int 0)) (.cons (.bin .sub (.bf .abs (.cons (.var 1) .nil)) (.bin .pow (.con (.int 10)) (.con (.int 18)))) .nil))) (.cons (.bin .mod (.bf .int (.cons (.bin .add (.bin .mul (.var 1) (.con (.int 7129))) (.con (.int 60013))) .nil)) (.con (.int 2147483489))) (.cons (.con (.int 0)) .nil)))))) .nil)
abbrev f__law_well : Fn := { name := "_law_well", N := ["cell", "number"], P := ["cell"], frz := false, body := b__law_well }
abbrev b__law_draw : Ss := .cons (.asg 2 (.idx (.var 0) (.con (.int 0)))) (.cons (.sto (.var 0) (.con (.int 2)) (.bin .add (.idx (.var 0) (.con (.int 2))) (.con (.int 1)))) (.cons (.sto (.var 0) (.con (.int 1)) (.bin .mod (.bf .int (.cons (.bin .add (.bin .add (.bin .mul (.idx (.var 0) (.con (.int 1))) (.con (.int 16807))) (.bin .mul (.idx (.var 0) (.con (.int 2))) (.con (.int 127)))) (.con (.int 3))) .nil)) (.con (.int 2147483489)))) (.cons (.ite (.cmp .gt (.var 2) (.con (.int 0))) (.cons (.sto (.var 0) (.con (.int 0)) (.bin .fdiv (.var 2) (.var 1))) (.cons (.ret (.bin .mod (.bf .int (.cons (.var 2) .nil)) (.var 1))) .nil)) (.nil)) (.cons (.ret (.bin .mod (.bf .int (.cons (.bin .fdiv (.bin .mul (.idx (.var 0) (.con (.int 1))) (.bin .add (.bin .fdiv (.idx (.var 0) (.con (.int 1))) (.con (.int 53))) (.con (.int 19)))) (.con (.int 7919))) .nil)) (.var 1))) .nil))))
abbrev f__law_draw : Fn := { name := "_law_draw", N := ["well", "many", "full"], P := ["well", "many"], frz := false, body := b__law_draw }
abbrev i__law_same_0 : I := .rng (.bf .len (.cons (.var 1) .nil))
abbrev x__law_same_0 : E := .var 2
abbrev c__law_same_0 : E := .not (.call 20 (.cons (.idx (.var 0) (.var 2)) (.cons (.idx (.var 1) (.var 2)) .nil)))
abbrev e__law_same_0 : E := .lc (.v 2) i__law_same_0 c__law_same_0 x__law_same_0
abbrev b__law_same : Ss := .cons (.ite (.cmp .is (.var 1) (.con (.non))) (.cons (.ret (.cmp .is (.var 0) (.con (.non)))) .nil) (.nil)) (.cons (.ite (.or (.cmp .is (.var 1) (.con (.bl true))) (.cons (.cmp .is (.var 1) (.con (.bl false))) .nil)) (.cons (.ret (.ite (.var 1) (.cmp .is (.var 0) (.con (.bl true))) (.cmp .is (.var 0) (.con (.bl false))))) .nil) (.nil)) (.cons (.ite (.isi (.var 1) .str) (.cons (.ret (.and (.isi (.var 0) .str) (.cons (.cmp .eq (.var 0) (.var 1)) .nil))) .nil) (.nil)) (.cons (.ite (.or (.isi (.var 1) .tup) (.cons (.isi (.var 1) .lst) .nil)) (.cons (.ite (.or (.cmp .ne (.isi (.var 0) .tup) (.isi (.var 1) .tup)) (.cons (.cmp .ne (.isi (.var 0) .lst) (.isi (.var 1) .lst)) .nil)) (.cons (.ret (.con (.bl false))) .nil) (.nil)) (.cons (.ret (.and (.cmp .eq (.bf .len (.cons (.var 0) .nil)) (.bf .len (.cons (.var 1) .nil))) (.cons (.cmp .eq (e__law_same_0) (.lst (.nil))) .nil))) .nil)) (.nil)) (.cons (.ret (.and (.isi (.var 0) .int) (.cons (.cmp .isn (.var 0) (.con (.bl true))) (.cons (.cmp .isn (.var 0) (.con (.bl false))) (.cons (.cmp .eq (.var 0) (.var 1)) .nil))))) .nil))))
abbrev f__law_same : Fn := { name := "_law_same", N := ["found", "due", "k"], P := ["found", "due"], frz := false, body := b__law_same }
abbrev i__law_opened_0 : I := .ev (.idx (.var 0) (.con (.int 1)))
abbrev x__law_opened_0 : E := .call 21 (.cons (.var 4) (.cons (.var 1) (.cons (.var 2) .nil)))
abbrev c__law_opened_0 : E := .miss
abbrev e__law_opened_0 : E := .lc (.v 4) i__law_opened_0 c__law_opened_0 x__law_opened_0
abbrev i__law_opened_1 : I := .ev (.idx (.var 0) (.con (.int 2)))
abbrev x__law_opened_1 : E := .call 21 (.cons (.var 4) (.cons (.var 1) (.cons (.bin .add (.var 2) (.idx (.var 0) (.con (.int 1)))) .nil)))
abbrev c__law_opened_1 : E := .miss
abbrev e__law_opened_1 : E := .lc (.v 4) i__law_opened_1 c__law_opened_1 x__law_opened_1
abbrev i__law_opened_2 : I := .ev (.idx (.var 0) (.con (.int 2)))
abbrev x__law_opened_2 : E := .call 21 (.cons (.var 4) (.cons (.var 1) (.cons (.bin .add (.var 2) (.idx (.var 0) (.con (.int 1)))) .nil)))
abbrev c__law_opened_2 : E := .miss
abbrev e__law_opened_2 : E := .lc (.v 4) i__law_opened_2 c__law_opened_2 x__law_opened_2
abbrev b__law_opened : Ss := .cons (.asg 3 (.idx (.var 0) (.con (.int 0)))) (.cons (.ite (.cmp .eq (.var 3) (.con (.str "var"))) (.cons (.ite (.cmp .lt (.idx (.var 0) (.con (.int 1))) (.var 2)) (.cons (.ret (.var 0)) .nil) (.nil)) (.cons (.ret (.ite (.cmp .lt (.idx (.var 0) (.con (.int 1))) (.bin .add (.var 2) (.bf .len (.cons (.var 1) .nil)))) (.idx (.var 1) (.bin .sub (.idx (.var 0) (.con (.int 1))) (.var 2))) (.tup (.cons (.con (.str "var")) (.cons (.bin .sub (.idx (.var 0) (.con (.int 1))) (.bf .len (.cons (.var 1) .nil))) .nil))))) .nil)) (.nil)) (.cons (.ite (.or (.cmp .eq (.var 3) (.con (.str "row"))) (.cons (.cmp .eq (.var 3) (.con (.str "one"))) .nil)) (.cons (.ret (.tup (.cons (.var 3) (.cons (.bf .tuple (.cons (e__law_opened_0) .nil)) .nil)))) .nil) (.nil)) (.cons (.ite (.cmp .eq (.var 3) (.con (.str "cell"))) (.cons (.ret (.tup (.cons (.con (.str "cell")) (.cons (.call 21 (.cons (.idx (.var 0) (.con (.int 1))) (.cons (.var 1) (.cons (.var 2) .nil)))) .nil)))) .nil) (.nil)) (.cons (.ite (.or (.cmp .eq (.var 3) (.con (.str "some"))) (.cons (.cmp .eq (.var 3) (.con (.str "rec"))) .nil)) (.cons (.ret (.tup (.cons (.var 3) (.cons (.call 21 (.cons (.idx (.var 0) (.con (.int 1))) (.cons (.var 1) (.cons (.bin .add (.var 2) (.con (.int 1))) .nil)))) .nil)))) .nil) (.nil)) (.cons (.ite (.cmp .eq (.var 3) (.con (.str "not"))) (.cons (.ret (.tup (.cons (.con (.str "not")) (.cons (.idx (.var 0) (.con (.int 1))) (.cons (.bf .tuple (.cons (e__law_opened_1) .nil)) .nil))))) .nil) (.nil)) (.cons (.ite (.cmp .eq (.var 3) (.con (.str "to"))) (.cons (.asg 5 (.bf .tuple (.cons (e__law_opened_2) .nil))) (.cons (.ret (.tup (.cons (.con (.str "to")) (.cons (.idx (.var 0) (.con (.int 1))) (.cons (.var 5) (.cons (.call 21 (.cons (.idx (.var 0) (.con (.int 3))) (.cons (.var 1) (.cons (.bin .add (.var 2) (.idx (.var 0) (.con (.int 1)))) .nil)))) .nil)))))) .nil)) (.nil)) (.cons (.ret (.var 0)) .nil)))))))
abbrev f__law_opened : Fn := { name := "_law_opened", N := ["kind", "puts", "floor", "word", "one", "ks"], P := ["kind", "puts", "floor"], frz := false, body := b__law_opened }
abbrev i__law_turned_0 : I := .ev (.idx (.var 0) (.con (.int 1)))
abbrev x__law_turned_0 : E := .call 22 (.cons (.var 2) .nil)
abbrev c__law_turned_0 : E := .miss
abbrev e__law_turned_0 : E := .lc (.v 2) i__law_turned_0 c__law_turned_0 x__law_turned_0
abbrev i__law_turned_1 : I := .ev (.idx (.var 0) (.con (.int 2)))
abbrev x__law_turned_1 : E := .call 22 (.cons (.var 2) .nil)
abbrev c__law_turned_1 : E := .miss
abbrev e__law_turned_1 : E := .lc (.v 2) i__law_turned_1 c__law_turned_1 x__law_turned_1
abbrev b__law_turned : Ss := .cons (.asg 1 (.idx (.var 0) (.con (.int 0)))) (.cons (.ite (.or (.cmp .eq (.var 1) (.con (.str "row"))) (.cons (.cmp .eq (.var 1) (.con (.str "one"))) .nil)) (.cons (.ret (.tup (.cons (.var 1) (.cons (.bf .tuple (.cons (e__law_turned_0) .nil)) .nil)))) .nil) (.nil)) (.cons (.ite (.or (.cmp .eq (.var 1) (.con (.str "cell"))) (.cons (.cmp .eq (.var 1) (.con (.str "some"))) (.cons (.cmp .eq (.var 1) (.con (.str "rec"))) .nil))) (.cons (.ret (.tup (.cons (.var 1) (.cons (.call 22 (.cons (.idx (.var 0) (.con (.int 1))) .nil)) .nil)))) .nil) (.nil)) (.cons (.ite (.cmp .eq (.var 1) (.con (.str "to"))) (.cons (.asg 3 (.tup (.cons (.con (.str "not")) (.cons (.con (.int 0)) (.cons (.tup (.cons (.call 22 (.cons (.idx (.var 0) (.con (.int 3))) .nil)) .nil)) .nil))))) (.cons (.ret (.tup (.cons (.con (.str "not")) (.cons (.idx (.var 0) (.con (.int 1))) (.cons (.bf .tuple (.cons (.bin .add (e__law_turned_1) (.lst (.cons (.var 3) .nil))) .nil)) .nil))))) .nil)) (.nil)) (.cons (.ret (.var 0)) .nil))))
abbrev f__law_turned : Fn := { name := "_law_turned", N := ["kind", "word", "one", "last"], P := ["kind"], frz := false, body := b__law_turned }
abbrev i__law_kind_0 : I := .rng (.call 19 (.cons (.var 0) (.cons (.con (.int 4)) .nil)))
abbrev x__law_kind_0 : E := .call 23 (.cons (.var 0) (.cons (.var 1) (.cons (.bin .sub (.var 2) (.con (.int 1))) .nil)))
abbrev c__law_kind_0 : E := .miss
abbrev e__law_kind_0 : E := .lc (.v 4) i__law_kind_0 c__law_kind_0 x__law_kind_0
abbrev i__law_kind_1 : I := .rng (.bin .add (.con (.int 1)) (.call 19 (.cons (.var 0) (.cons (.con (.int 3)) .nil))))
abbrev x__law_kind_1 : E := .call 23 (.cons (.var 0) (.cons (.var 1) (.cons (.bin .sub (.var 2) (.con (.int 1))) .nil)))
abbrev c__law_kind_1 : E := .miss
abbrev e__law_kind_1 : E := .lc (.v 4) i__law_kind_1 c__law_kind_1 x__law_kind_1
abbrev i__law_kind_2 : I := .rng (.call 19 (.cons (.var 0) (.cons (.con (.int 4)) .nil)))
abbrev x__law_kind_2 : E := .call 23 (.cons (.var 0) (.cons (.bin .add (.var 1) (.var 5)) (.cons (.bin .sub (.var 2) (.con (.int 1))) .nil)))
abbrev c__law_kind_2 : E := .miss
abbrev e__law_kind_2 : E := .lc (.v 4) i__law_kind_2 c__law_kind_2 x__law_kind_2
abbrev b__law_kind : Ss := .cons (.asg 3 (.ite (.cmp .gt (.var 2) (.con (.int 0))) (.call 19 (.cons (.var 0) (.cons (.con (.int 11)) .nil))) (.call 19 (.cons (.var 0) (.cons (.con (.int 3)) .nil))))) (.cons (.ite (.or (.cmp .eq (.var 3) (.con (.int 0))) (.cons (.and (.cmp .eq (.var 3) (.con (.int 1))) (.cons (.cmp .eq (.var 1) (.con (.int 0))) .nil)) .nil)) (.cons (.ret (.tup (.cons (.con (.str "int")) .nil))) .nil) (.nil)) (.cons (.ite (.cmp .eq (.var 3) (.con (.int 1))) (.cons (.ret (.tup (.cons (.con (.str "var")) (.cons (.call 19 (.cons (.var 0) (.cons (.var 1) .nil))) .nil)))) .nil) (.nil)) (.cons (.ite (.cmp .eq (.var 3) (.con (.int 2))) (.cons (.ret (.tup (.cons (.con (.str "free")) (.cons (.call 19 (.cons (.var 0) (.cons (.con (.int 5)) .nil))) .nil)))) .nil) (.nil)) (.cons (.ite (.cmp .lt (.var 3) (.con (.int 5))) (.cons (.ret (.tup (.cons (.con (.str "row")) (.cons (.bf .tuple (.cons (e__law_kind_0) .nil)) .nil)))) .nil) (.nil)) (.cons (.ite (.cmp .eq (.var 3) (.con (.int 5))) (.cons (.ret (.tup (.cons (.con (.str "one")) (.cons (.bf .tuple (.cons (e__law_kind_1) .nil)) .nil)))) .nil) (.nil)) (.cons (.ite (.cmp .eq (.var 3) (.con (.int 6))) (.cons (.ret (.tup (.cons (.con (.str "cell")) (.cons (.call 23 (.cons (.var 0) (.cons (.var 1) (.cons (.bin .sub (.var 2) (.con (.int 1))) .nil)))) .nil)))) .nil) (.nil)) (.cons (.ite (.cmp .eq (.var 3) (.con (.int 7))) (.cons (.ret (.tup (.cons (.con (.str "some")) (.cons (.call 23 (.cons (.var 0) (.cons (.bin .add (.var 1) (.con (.int 1))) (.cons (.bin .sub (.var 2) (.con (.int 1))) .nil)))) .nil)))) .nil) (.nil)) (.cons (.ite (.cmp .eq (.var 3) (.con (.int 8))) (.cons (.ret (.tup (.cons (.con (.str "rec")) (.cons (.tup (.cons (.con (.str "row")) (.cons (.tup (.cons (.call 23 (.cons (.var 0) (.cons (.bin .add (.var 1) (.con (.int 1))) (.cons (.bin .sub (.var 2) (.con (.int 1))) .nil)))) .nil)) .nil))) .nil)))) .nil) (.nil)) (.cons (.asg 5 (.idx (.lst (.cons (.con (.int 0)) (.cons (.con (.int 0)) (.cons (.con (.int 1)) (.cons (.con (.int 2)) (.cons (.con (.int 3)) .nil)))))) (.call 19 (.cons (.var 0) (.cons (.con (.int 5)) .nil))))) (.cons (.asg 6 (.bf .tuple (.cons (e__law_kind_2) .nil))) (.cons (.ret (.tup (.cons (.con (.str "to")) (.cons (.var 5) (.cons (.var 6) (.cons (.call 23 (.cons (.var 0) (.cons (.bin .add (.var 1) (.var 5)) (.cons (.bin .sub (.var 2) (.con (.int 1))) .nil)))) .nil)))))) .nil)))))))))))
abbrev f__law_kind : Fn := { name := "_law_kind", N := ["well", "bound", "deep", "way", "k", "n", "ks"], P := ["well", "bound", "deep"], frz := false, body := b__law_kind }
abbrev i__law_filled_0 : I := .ev (.idx (.var 0) (.con (.int 1)))
abbrev x__law_filled_0 : E := .call 24 (.cons (.var 3) (.cons (.var 1) .nil))
abbrev c__law_filled_0 : E := .miss
abbrev e__law_filled_0 : E := .lc (.v 3) i__law_filled_0 c__law_filled_0 x__law_filled_0
abbrev i__law_filled_1 : I := .ev (.idx (.var 0) (.con (.int 2)))
abbrev x__law_filled_1 : E := .call 24 (.cons (.var 3) (.cons (.var 1) .nil))
abbrev c__law_filled_1 : E := .miss
abbrev e__law_filled_1 : E := .lc (.v 3) i__law_filled_1 c__law_filled_1 x__law_filled_1
abbrev i__law_filled_2 : I := .ev (.idx (.var 0) (.con (.int 2)))
abbrev x__law_filled_2 : E := .call 24 (.cons (.var 3) (.cons (.var 1) .nil))
abbrev c__law_filled_2 : E := .miss
abbrev e__law_filled_2 : E := .lc (.v 3) i__law_filled_2 c__law_filled_2 x__law_filled_2
abbrev b__law_filled : Ss := .cons (.asg 2 (.idx (.var 0) (.con (.int 0)))) (.cons (.ite (.cmp .eq (.var 2) (.con (.str "free"))) (.cons (.ret (.idx (.var 1) (.idx (.var 0) (.con (.int 1))))) .nil) (.nil)) (.cons (.ite (.or (.cmp .eq (.var 2) (.con (.str "row"))) (.cons (.cmp .eq (.var 2) (.con (.str "one"))) .nil)) (.cons (.ret (.tup (.cons (.var 2) (.cons (.bf .tuple (.cons (e__law_filled_0) .nil)) .nil)))) .nil) (.nil)) (.cons (.ite (.or (.cmp .eq (.var 2) (.con (.str "cell"))) (.cons (.cmp .eq (.var 2) (.con (.str "some"))) (.cons (.cmp .eq (.var 2) (.con (.str "rec"))) .nil))) (.cons (.ret (.tup (.cons (.var 2) (.cons (.call 24 (.cons (.idx (.var 0) (.con (.int 1))) (.cons (.var 1) .nil))) .nil)))) .nil) (.nil)) (.cons (.ite (.cmp .eq (.var 2) (.con (.str "not"))) (.cons (.ret (.tup (.cons (.var 2) (.cons (.idx (.var 0) (.con (.int 1))) (.cons (.bf .tuple (.cons (e__law_filled_1) .nil)) .nil))))) .nil) (.nil)) (.cons (.ite (.cmp .eq (.var 2) (.con (.str "to"))) (.cons (.ret (.tup (.cons (.var 2) (.cons (.idx (.var 0) (.con (.int 1))) (.cons (.bf .tuple (.cons (e__law_filled_2) .nil)) (.cons (.call 24 (.cons (.idx (.var 0) (.con (.int 3))) (.cons (.var 1) .nil))) .nil)))))) .nil) (.nil)) (.cons (.ret (.var 0)) .nil))))))
abbrev f__law_filled : Fn := { name := "_law_filled", N := ["kind", "kinds", "word", "one"], P := ["kind", "kinds"], frz := false, body := b__law_filled }
abbrev b__law_is_refused : Ss := .cons (.asg 1 (.con (.bl false))) (.cons (.try_ (.cons (.expC 17 (.cons (.var 0) .nil)) .nil) "InvalidKind" ["InvalidKind"] [] (.cons (.asg 1 (.con (.bl true))) .nil)) (.cons (.ret (.var 1)) .nil))
abbrev f__law_is_refused : Fn := { name := "_law_is_refused", N := ["value", "refused"], P := ["value"], frz := false, body := b__law_is_refused }
abbrev b__law_no_kind : Ss := .cons (.asg 2 (.lst (.cons (.tup (.cons (.con (.str "not")) (.cons (.con (.int 0)) (.cons (.tup (.cons (.var 1) .nil)) .nil)))) (.cons (.tup (.cons (.con (.str "var")) (.cons (.con (.int 0)) .nil))) (.cons (.tup (.cons (.con (.str "row")) (.cons (.tup (.cons (.var 1) (.cons (.tup (.cons (.con (.str "var")) (.cons (.con (.int 0)) .nil))) .nil))) .nil))) (.cons (.tup (.cons (.con (.str "one")) (.cons (.tup (.nil)) .nil))) (.cons (.lst (.cons (.con (.str "int")) .nil)) (.cons (.con (.non)) (.cons (.tup (.cons (.con (.str "int")) (.cons (.con (.int 1)) .nil))) .nil))))))))) (.cons (.asg 2 (.bin .add (.var 2) (.lst (.cons (.tup (.cons (.con (.str "to")) (.cons (.neg (.con (.int 1))) (.cons (.tup (.nil)) (.cons (.var 1) .nil))))) (.cons (.tup (.cons (.con (.str "to")) (.cons (.con (.bl true)) (.cons (.tup (.nil)) (.cons (.var 1) .nil))))) (.cons (.tup (.cons (.con (.str "to")) (.cons (.con (.int 1)) (.cons (.tup (.cons (.var 1) .nil)) .nil)))) (.cons (.tup (.cons (.con (.str "to")) (.cons (.con (.int 0)) (.cons (.lst (.cons (.var 1) .nil)) (.cons (.var 1) .nil))))) (.cons (.con (.str "int")) .nil)))))))) (.cons (.asg 2 (.bin .add (.var 2) (.lst (.cons (.tup (.cons (.con (.str "room")) (.cons (.tup (.cons (.tup (.cons (.var 1) (.cons (.con (.bl true)) .nil))) .nil)) .nil))) (.cons (.tup (.cons (.con (.str "rec")) (.cons (.tup (.cons (.con (.str "var")) (.cons (.con (.int 0)) .nil))) .nil))) (.cons (.tup (.cons (.con (.str "some")) (.cons (.var 1) (.cons (.var 1) .nil)))) (.cons (.tup (.cons (.con (.str "free")) (.cons (.neg (.con (.int 1))) .nil))) (.cons (.tup (.cons (.con (.str "cell")) .nil)) (.cons (.tup (.nil)) .nil))))))))) (.cons (.ret (.idx (.var 2) (.call 19 (.cons (.var 0) (.cons (.con (.int 18)) .nil))))) .nil)))
abbrev f__law_no_kind : Fn := { name := "_law_no_kind", N := ["well", "kind", "some"], P := ["well", "kind"], frz := false, body := b__law_no_kind }
abbrev i__law_opens_alike_0 : I := .ev (.lst (.cons (.var 9) (.cons (.var 1) (.cons (.var 10) .nil))))
abbrev x__law_opens_alike_0 : E := .call 22 (.cons (.call 21 (.cons (.var 11) (.cons (.tup (.cons (.var 2) (.cons (.var 3) (.cons (.var 4) .nil)))) (.cons (.con (.int 0)) .nil)))) .nil)
abbrev c__law_opens_alike_0 : E := .miss
abbrev e__law_opens_alike_0 : E := .lc (.v 11) i__law_opens_alike_0 c__law_opens_alike_0 x__law_opens_alike_0
abbrev b__law_opens_alike : Ss := .cons (.unp [2, 3, 4] (.tup (.cons (.call 23 (.cons (.var 0) (.cons (.con (.int 0)) (.cons (.con (.int 1)) .nil)))) (.cons (.call 23 (.cons (.var 0) (.cons (.con (.int 0)) (.cons (.con (.int 2)) .nil)))) (.cons (.call 23 (.cons (.var 0) (.cons (.con (.int 0)) (.cons (.con (.int 0)) .nil)))) .nil))))) (.cons (.for_ (.v 5) (.ev (.lst (.cons (.con (.str "some")) (.cons (.con (.str "rec")) .nil)))) (.cons (.asg 6 (.call 23 (.cons (.var 0) (.cons (.con (.int 1)) (.cons (.con (.int 2)) .nil))))) (.cons (.asg 7 (.tup (.cons (.var 5) (.cons (.tup (.cons (.con (.str "row")) (.cons (.tup (.cons (.var 6) .nil)) .nil))) .nil)))) (.cons (.asg 8 (.call 22 (.cons (.tup (.cons (.con (.str "row")) (.cons (.tup (.cons (.call 21 (.cons (.var 6) (.cons (.tup (.cons (.var 2) .nil)) (.cons (.con (.int 0)) .nil)))) .nil)) .nil))) .nil))) (.cons (.ite (.not (.call 20 (.cons (.call 17 (.cons (.call 12 (.cons (.var 7) (.cons (.tup (.cons (.var 2) .nil)) .nil))) .nil)) (.cons (.var 8) .nil)))) (.cons (.ret (.con (.bl false))) .nil) (.nil)) (.cons (.ite (.not (.call 20 (.cons (.call 12 (.cons (.call 17 (.cons (.var 7) .nil)) (.cons (.tup (.cons (.call 17 (.cons (.var 2) .nil)) .nil)) .nil))) (.cons (.var 8) .nil)))) (.cons (.ret (.con (.bl false))) .nil) (.nil)) .nil)))))) (.cons (.par 9 10 (.call 23 (.cons (.var 0) (.cons (.con (.int 3)) (.cons (.con (.int 2)) .nil)))) (.call 23 (.cons (.var 0) (.cons (.con (.int 3)) (.cons (.con (.int 2)) .nil))))) (.cons (.asg 7 (.tup (.cons (.con (.str "to")) (.cons (.con (.int 3)) (.cons (.tup (.cons (.var 9) (.cons (.var 1) .nil))) (.cons (.var 10) .nil)))))) (.cons (.asg 8 (.bf .tuple (.cons (e__law_opens_alike_0) .nil))) (.cons (.asg 12 (.call 12 (.cons (.call 17 (.cons (.var 7) .nil)) (.cons (.tup (.cons (.call 17 (.cons (.var 2) .nil)) (.cons (.call 17 (.cons (.var 3) .nil)) (.cons (.call 17 (.cons (.var 4) .nil)) .nil)))) .nil)))) (.cons (.ret (.call 20 (.cons (.var 12) (.cons (.bin .add (.slc (.var 8) (.miss) (.con (.int 2))) (.tup (.cons (.tup (.cons (.con (.str "not")) (.cons (.con (.int 0)) (.cons (.slc (.var 8) (.con (.int 2)) (.miss)) .nil)))) .nil))) .nil)))) .nil))))))
abbrev f__law_opens_alike : Fn := { name := "_law_opens_alike", N := ["well", "kind", "one", "other", "third", "word", "inside", "whole", "due", "asked", "told", "part", "found"], P := ["well", "kind"], frz := false, body := b__law_opens_alike }
abbrev b__law_great_right : Ss := .cons (.asg 1 (.call 23 (.cons (.var 0) (.cons (.con (.int 0)) (.cons (.con (.int 0)) .nil))))) (.cons (.asg 1 (.tup (.cons (.con (.str "to")) (.cons (.con (.int 1)) (.cons (.tup (.cons (.var 1) .nil)) (.cons (.tup (.cons (.con (.str "var")) (.cons (.con (.int 0)) .nil))) .nil)))))) (.cons (.for_ (.v 2) (.rng (.con (.int 7))) (.cons (.asg 1 (.tup (.cons (.con (.str "row")) (.cons (.tup (.cons (.var 1) (.cons (.var 1) .nil))) .nil)))) .nil)) (.cons (.ret (.call 20 (.cons (.call 17 (.cons (.var 1) .nil)) (.cons (.call 22 (.cons (.var 1) .nil)) .nil)))) .nil)))
abbrev f__law_great_right : Fn := { name := "_law_great_right", N := ["well", "kind", "k"], P := ["well"], frz := false, body := b__law_great_right }
abbrev i_law_0 : I := .rng (.con (.int 5))
abbrev x_law_0 : E := .call 23 (.cons (.var 2) (.cons (.con (.int 0)) (.cons (.con (.int 1)) .nil)))
abbrev c_law_0 : E := .miss
abbrev e_law_0 : E := .lc (.v 6) i_law_0 c_law_0 x_law_0
abbrev i_law_1 : I := .ev (.var 5)
abbrev x_law_1 : E := .call 17 (.cons (.var 8) .nil)
abbrev c_law_1 : E := .miss
abbrev e_law_1 : E := .lc (.v 8) i_law_1 c_law_1 x_law_1
abbrev i_law_2 : I := .rng (.con (.int 5))
abbrev x_law_2 : E := .tup (.cons (.con (.str "free")) (.cons (.var 6) .nil))
abbrev c_law_2 : E := .miss
abbrev e_law_2 : E := .lc (.v 6) i_law_2 c_law_2 x_law_2
abbrev i_law_3 : I := .ev (.var 9)
abbrev x_law_3 : E := .idx (.var 10) (.var 6)
abbrev c_law_3 : E := .miss
abbrev e_law_3 : E := .lc (.v 6) i_law_3 c_law_3 x_law_3
abbrev b_law : Ss := .cons (.ite (.not (.call 28 (.cons (.call 18 (.cons (.idx (.bin .add (.bf .list (.cons (.var 0) .nil)) (.lst (.cons (.con (.int 0)) .nil))) (.con (.int 0))) .nil)) .nil))) (.cons (.ret (.con (.bl false))) .nil) (.nil)) (.cons (.for_ (.v 1) (.ev (.slc (.bin .add (.bf .list (.cons (.var 0) .nil)) (.lst (.cons (.con (.int 0)) .nil))) (.miss) (.con (.int 20)))) (.cons (.asg 2 (.call 18 (.cons (.var 1) .nil))) (.cons (.asg 3 (.call 23 (.cons (.var 2) (.cons (.con (.int 0)) (.cons (.con (.int 4)) .nil))))) (.cons (.ite (.not (.call 20 (.cons (.call 17 (.cons (.var 3) .nil)) (.cons (.call 22 (.cons (.var 3) .nil)) .nil)))) (.cons (.ret (.con (.bl false))) .nil) (.nil)) (.cons (.asg 4 (.idx (.lst (.cons (.call 23 (.cons (.var 2) (.cons (.con (.int 0)) (.cons (.con (.int 3)) .nil)))) (.cons (.tup (.cons (.con (.str "row")) (.cons (.tup (.cons (.var 3) .nil)) .nil))) (.cons (.tup (.cons (.con (.str "to")) (.cons (.con (.int 0)) (.cons (.tup (.cons (.var 3) .nil)) (.cons (.var 3) .nil))))) (.cons (.var 3) .nil))))) (.call 19 (.cons (.var 2) (.cons (.con (.int 4)) .nil))))) (.cons (.ite (.cmp .ne (.cmp .eq (.callK 17 (.nil) (.cons (.var 4) .nil) [0]) (.call 17 (.cons (.var 3) .nil))) (.cmp .eq (.var 4) (.var 3))) (.cons (.ret (.con (.bl false))) .nil) (.nil)) (.cons (.ite (.not (.call 27 (.cons (.var 2) (.cons (.var 3) .nil)))) (.cons (.ret (.con (.bl false))) .nil) (.nil)) (.cons (.asg 5 (.bf .tuple (.cons (e_law_0) .nil))) (.cons (.asg 7 (.call 22 (.cons (.call 24 (.cons (.var 3) (.cons (.var 5) .nil))) .nil))) (.cons (.ite (.not (.call 20 (.cons (.call 15 (.cons (.call 17 (.cons (.var 3) .nil)) (.cons (.bf .tuple (.cons (e_law_1) .nil)) .nil))) (.cons (.var 7) .nil)))) (.cons (.ret (.con (.bl false))) .nil) (.nil)) (.cons (.asg 9 (.idx (.lst (.cons (.ftup (.cons (.con (.int 4)) (.cons (.con (.int 0)) .nil))) (.cons (.ftup (.cons (.con (.int 2)) .nil)) (.cons (.ftup (.cons (.con (.int 1)) (.cons (.con (.int 3)) (.cons (.con (.int 0)) .nil)))) (.cons (.ftup (.nil)) .nil))))) (.call 19 (.cons (.var 2) (.cons (.con (.int 4)) .nil))))) (.cons (.asg 10 (e_law_2)) (.cons (.asg 11 (.call 14 (.cons (.call 17 (.cons (.var 3) .nil)) (.cons (.var 9) .nil)))) (.cons (.ite (.not (.call 20 (.cons (.call 21 (.cons (.var 11) (.cons (.bf .tuple (.cons (e_law_3) .nil)) (.cons (.con (.int 0)) .nil)))) (.cons (.call 22 (.cons (.var 3) .nil)) .nil)))) (.cons (.ret (.con (.bl false))) .nil) (.nil)) (.cons (.asg 12 (.tup (.cons (.con (.str "cell")) (.cons (.tup (.cons (.con (.str "free")) (.cons (.call 19 (.cons (.var 2) (.cons (.bin .pow (.con (.int 10)) (.con (.int 60))) .nil))) .nil))) .nil)))) (.cons (.ite (.or (.not (.call 20 (.cons (.call 17 (.cons (.var 12) .nil)) (.cons (.var 12) .nil)))) (.cons (.not (.call 25 (.cons (.call 26 (.cons (.var 2) (.cons (.var 3) .nil))) .nil))) .nil)) (.cons (.ret (.con (.bl false))) .nil) (.nil)) .nil)))))))))))))))) (.cons (.ret (.con (.bl true))) .nil))
abbrev f_law : Fn := { name := "law", N := ["script", "cell", "well", "kind", "other", "kinds", "k", "due", "one", "order", "back", "shuts", "far"], P := ["script"], frz := false, body := b_law }
def T : List Fn := [f_is_integer, f_is_tuple_of, f_is_kinds, f_is_pairs, f_has_form, f_is_rising, f_insides, f_binds, f_with_insides, f_is_kind_below, f_is_kind, f_put_below, f_opened, f_shut_below, f_shut, f_filled, f_turned, f_carried, f__law_well, f__law_draw, f__law_same, f__law_opened, f__law_turned, f__law_kind, f__law_filled, f__law_is_refused, f__law_no_kind, f__law_opens_alike, f__law_great_right, f_law]
def bs : List Str := ["abs", "all", "bool", "int", "isinstance", "len", "list", "max", "range", "str", "tuple", "zip"]
def gn : List Str := ["MOST_BOUND", "CORE_WORDS", "ENDLESS"]
def xs : List Str := ["InvalidKind"]
def xm : List (Str × Str × Bool) := [("InvalidKind", "InvalidKind", true)]
-- at: [4, 5, 9, 10, 11, 12, 13, 14, 15, 16, 17, 18, 19, 20, 21, 22, 25, 26, 28, 29, 30, 31, 32, 33, 34, 35, 36, 37, 38, 39]

def top (i : Nat) : Stmt := PySem.Challenge.pw_kindscarried_k22_kinds_carried.main.body.getD i (.Pass ⟨0, 0, 0, 0⟩)
def chk (f : Fn) (i : Nat) : Bool := mSs ⟨f.N, defScope (top i), fun _ => true, bs, T, gn, xs, xm⟩ f.body (defBody (top i))
theorem ok_is_integer : chk f_is_integer 4 = true := by decide +kernel
theorem sc_is_integer : FnScope f_is_integer.N f_is_integer.P (defScope (top 4)) := ⟨rfl, rfl, rfl, by decide +kernel, rfl, by decide +kernel, by decide +kernel⟩
theorem ok_is_tuple_of : chk f_is_tuple_of 5 = true := by decide +kernel
theorem sc_is_tuple_of : FnScope f_is_tuple_of.N f_is_tuple_of.P (defScope (top 5)) := ⟨rfl, rfl, rfl, by decide +kernel, rfl, by decide +kernel, by decide +kernel⟩
theorem ok_is_kinds : chk f_is_kinds 9 = true := by decide +kernel
theorem sc_is_kinds : FnScope f_is_kinds.N f_is_kinds.P (defScope (top 9)) := ⟨rfl, rfl, rfl, by decide +kernel, rfl, by decide +kernel, by decide +kernel⟩
theorem ok_is_pairs : chk f_is_pairs 10 = true := by decide +kernel
theorem sc_is_pairs : FnScope f_is_pairs.N f_is_pairs.P (defScope (top 10)) := ⟨rfl, rfl, rfl, by decide +kernel, rfl, by decide +kernel, by decide +kernel⟩
theorem ok_has_form : chk f_has_form 11 = true := by decide +kernel
theorem sc_has_form : FnScope f_has_form.N f_has_form.P (defScope (top 11)) := ⟨rfl, rfl, rfl, by decide +kernel, rfl, by decide +kernel, by decide +kernel⟩
theorem ok_is_rising : chk f_is_rising 12 = true := by decide +kernel
theorem sc_is_rising : FnScope f_is_rising.N f_is_rising.P (defScope (top 12)) := ⟨rfl, rfl, rfl, by decide +kernel, rfl, by decide +kernel, by decide +kernel⟩
theorem ok_insides : chk f_insides 13 = true := by decide +kernel
theorem sc_insides : FnScope f_insides.N f_insides.P (defScope (top 13)) := ⟨rfl, rfl, rfl, by decide +kernel, rfl, by decide +kernel, by decide +kernel⟩
theorem ok_binds : chk f_binds 14 = true := by decide +kernel
theorem sc_binds : FnScope f_binds.N f_binds.P (defScope (top 14)) := ⟨rfl, rfl, rfl, by decide +kernel, rfl, by decide +kernel, by decide +kernel⟩
theorem ok_with_insides : chk f_with_insides 15 = true := by decide +kernel
theorem sc_with_insides : FnScope f_with_insides.N f_with_insides.P (defScope (top 15)) := ⟨rfl, rfl, rfl, by decide +kernel, rfl, by decide +kernel, by decide +kernel⟩
theorem ok_is_kind_below : chk f_is_kind_below 16 = true := by decide +kernel
theorem sc_is_kind_below : FnScope f_is_kind_below.N f_is_kind_below.P (defScope (top 16)) := ⟨rfl, rfl, rfl, by decide +kernel, rfl, by decide +kernel, by decide +kernel⟩
theorem ok_is_kind : chk f_is_kind 17 = true := by decide +kernel
theorem sc_is_kind : FnScope f_is_kind.N f_is_kind.P (defScope (top 17)) := ⟨rfl, rfl, rfl, by decide +kernel, rfl, by decide +kernel, by decide +kernel⟩
theorem ok_put_below : chk f_put_below 18 = true := by decide +kernel
theorem sc_put_below : FnScope f_put_below.N f_put_below.P (defScope (top 18)) := ⟨rfl, rfl, rfl, by decide +kernel, rfl, by decide +kernel, by decide +kernel⟩
theorem ok_opened : chk f_opened 19 = true := by decide +kernel
theorem sc_opened : FnScope f_opened.N f_opened.P (defScope (top 19)) := ⟨rfl, rfl, rfl, by decide +kernel, rfl, by decide +kernel, by decide +kernel⟩
theorem ok_shut_below : chk f_shut_below 20 = true := by decide +kernel
theorem sc_shut_below : FnScope f_shut_below.N f_shut_below.P (defScope (top 20)) := ⟨rfl, rfl, rfl, by decide +kernel, rfl, by decide +kernel, by decide +kernel⟩
theorem ok_shut : chk f_shut 21 = true := by decide +kernel
theorem sc_shut : FnScope f_shut.N f_shut.P (defScope (top 21)) := ⟨rfl, rfl, rfl, by decide +kernel, rfl, by decide +kernel, by decide +kernel⟩
theorem ok_filled : chk f_filled 22 = true := by decide +kernel
theorem sc_filled : FnScope f_filled.N f_filled.P (defScope (top 22)) := ⟨rfl, rfl, rfl, by decide +kernel, rfl, by decide +kernel, by decide +kernel⟩
theorem ok_turned : chk f_turned 25 = true := by decide +kernel
theorem sc_turned : FnScope f_turned.N f_turned.P (defScope (top 25)) := ⟨rfl, rfl, rfl, by decide +kernel, rfl, by decide +kernel, by decide +kernel⟩
theorem ok_carried : chk f_carried 26 = true := by decide +kernel
theorem sc_carried : FnScope f_carried.N f_carried.P (defScope (top 26)) := ⟨rfl, rfl, rfl, by decide +kernel, rfl, by decide +kernel, by decide +kernel⟩
theorem ok__law_well : chk f__law_well 28 = true := by decide +kernel
theorem sc__law_well : FnScope f__law_well.N f__law_well.P (defScope (top 28)) := ⟨rfl, rfl, rfl, by decide +kernel, rfl, by decide +kernel, by decide +kernel⟩
theorem ok__law_draw : chk f__law_draw 29 = true := by decide +kernel
theorem sc__law_draw : FnScope f__law_draw.N f__law_draw.P (defScope (top 29)) := ⟨rfl, rfl, rfl, by decide +kernel, rfl, by decide +kernel, by decide +kernel⟩
theorem ok__law_same : chk f__law_same 30 = true := by decide +kernel
theorem sc__law_same : FnScope f__law_same.N f__law_same.P (defScope (top 30)) := ⟨rfl, rfl, rfl, by decide +kernel, rfl, by decide +kernel, by decide +kernel⟩
theorem ok__law_opened : chk f__law_opened 31 = true := by decide +kernel
theorem sc__law_opened : FnScope f__law_opened.N f__law_opened.P (defScope (top 31)) := ⟨rfl, rfl, rfl, by decide +kernel, rfl, by decide +kernel, by decide +kernel⟩
theorem ok__law_turned : chk f__law_turned 32 = true := by decide +kernel
theorem sc__law_turned : FnScope f__law_turned.N f__law_turned.P (defScope (top 32)) := ⟨rfl, rfl, rfl, by decide +kernel, rfl, by decide +kernel, by decide +kernel⟩
theorem ok__law_kind : chk f__law_kind 33 = true := by decide +kernel
theorem sc__law_kind : FnScope f__law_kind.N f__law_kind.P (defScope (top 33)) := ⟨rfl, rfl, rfl, by decide +kernel, rfl, by decide +kernel, by decide +kernel⟩
theorem ok__law_filled : chk f__law_filled 34 = true := by decide +kernel
theorem sc__law_filled : FnScope f__law_filled.N f__law_filled.P (defScope (top 34)) := ⟨rfl, rfl, rfl, by decide +kernel, rfl, by decide +kernel, by decide +kernel⟩
theorem ok__law_is_refused : chk f__law_is_refused 35 = true := by decide +kernel
theorem sc__law_is_refused : FnScope f__law_is_refused.N f__law_is_refused.P (defScope (top 35)) := ⟨rfl, rfl, rfl, by decide +kernel, rfl, by decide +kernel, by decide +kernel⟩
theorem ok__law_no_kind : chk f__law_no_kind 36 = true := by decide +kernel
theorem sc__law_no_kind : FnScope f__law_no_kind.N f__law_no_kind.P (defScope (top 36)) := ⟨rfl, rfl, rfl, by decide +kernel, rfl, by decide +kernel, by decide +kernel⟩
theorem ok__law_opens_alike : chk f__law_opens_alike 37 = true := by decide +kernel
theorem sc__law_opens_alike : FnScope f__law_opens_alike.N f__law_opens_alike.P (defScope (top 37)) := ⟨rfl, rfl, rfl, by decide +kernel, rfl, by decide +kernel, by decide +kernel⟩
theorem ok__law_great_right : chk f__law_great_right 38 = true := by decide +kernel
theorem sc__law_great_right : FnScope f__law_great_right.N f__law_great_right.P (defScope (top 38)) := ⟨rfl, rfl, rfl, by decide +kernel, rfl, by decide +kernel, by decide +kernel⟩
theorem ok_law : chk f_law 39 = true := by decide +kernel
theorem sc_law : FnScope f_law.N f_law.P (defScope (top 39)) := ⟨rfl, rfl, rfl, by decide +kernel, rfl, by decide +kernel, by decide +kernel⟩
abbrev G : List D := [.int 10000, .tup [.str "cell", .str "int", .str "one", .str "rec", .str "row", .str "some", .str "to"], .int 10000000000000000000000000000000000000000000000000000000000000000000000000000000000000000000]
abbrev C (k f : Nat) (xs : List D) (h : Hh) : R D := callN T G k f xs h
abbrev F (k : Nat) : Fns := callN T G k
abbrev n_is_integer : Nat := 0
theorem C_is_integer (k : Nat) (x0 : D) (h : Hh) : C (k + 1) n_is_integer [x0] h = finR false h.length (evSs (F k) G b_is_integer [some x0] h) := id rfl
abbrev n_is_tuple_of : Nat := 1
theorem C_is_tuple_of (k : Nat) (x0 x1 : D) (h : Hh) : C (k + 1) n_is_tuple_of [x0, x1] h = finR false h.length (evSs (F k) G b_is_tuple_of [some x0, some x1] h) := id rfl
abbrev n_is_kinds : Nat := 2
theorem C_is_kinds (k : Nat) (x0 : D) (h : Hh) : C (k + 1) n_is_kinds [x0] h = finR false h.length (evSs (F k) G b_is_kinds [some x0, none] h) := id rfl
abbrev n_is_pairs : Nat := 3
theorem C_is_pairs (k : Nat) (x0 : D) (h : Hh) : C (k + 1) n_is_pairs [x0] h = finR false h.length (evSs (F k) G b_is_pairs [some x0, none] h) := id rfl
abbrev n_has_form : Nat := 4
theorem C_has_form (k : Nat) (x0 : D) (h : Hh) : C (k + 1) n_has_form [x0] h = finR false h.length (evSs (F k) G b_has_form [some x0, none, none, none] h) := id rfl
abbrev n_is_rising : Nat := 5
theorem C_is_rising (k : Nat) (x0 : D) (h : Hh) : C (k + 1) n_is_rising [x0] h = finR false h.length (evSs (F k) G b_is_rising [some x0, none, none] h) := id rfl
abbrev n_insides : Nat := 6
theorem C_insides (k : Nat) (x0 : D) (h : Hh) : C (k + 1) n_insides [x0] h = finR false h.length (evSs (F k) G b_insides [some x0, none, none, none, none] h) := id rfl
abbrev n_binds : Nat := 7
theorem C_binds (k : Nat) (x0 : D) (h : Hh) : C (k + 1) n_binds [x0] h = finR false h.length (evSs (F k) G b_binds [some x0] h) := id rfl
abbrev n_with_insides : Nat := 8
theorem C_with_insides (k : Nat) (x0 x1 : D) (h : Hh) : C (k + 1) n_with_insides [x0, x1] h = finR false h.length (evSs (F k) G b_with_insides [some x0, some x1, none, none, none] h) := id rfl
abbrev n_is_kind_below : Nat := 9
theorem C_is_kind_below (k : Nat) (x0 x1 x2 x3 : D) (h : Hh) : C (k + 1) n_is_kind_below [x0, x1, x2, x3] h = finR false h.length (evSs (F k) G b_is_kind_below [some x0, some x1, some x2, some x3, none] h) := id rfl
abbrev n_is_kind : Nat := 10
theorem C_is_kind (k : Nat) (x0 x1 x2 : D) (h : Hh) : C (k + 1) n_is_kind [x0, x1, x2] h = finR false h.length (evSs (F k) G b_is_kind [some x0, some x1, some x2] h) := id rfl
abbrev n_put_below : Nat := 11
theorem C_put_below (k : Nat) (x0 x1 x2 : D) (h : Hh) : C (k + 1) n_put_below [x0, x1, x2] h = finR false h.length (evSs (F k) G b_put_below [some x0, some x1, some x2, none, none, none] h) := id rfl
abbrev n_opened : Nat := 12
theorem C_opened (k : Nat) (x0 x1 : D) (h : Hh) : C (k + 1) n_opened [x0, x1] h = finR false h.length (evSs (F k) G b_opened [some x0, some x1, none, none] h) := id rfl
abbrev n_shut_below : Nat := 13
theorem C_shut_below (k : Nat) (x0 x1 x2 : D) (h : Hh) : C (k + 1) n_shut_below [x0, x1, x2] h = finR false h.length (evSs (F k) G b_shut_below [some x0, some x1, some x2, none, none] h) := id rfl
abbrev n_shut : Nat := 14
theorem C_shut (k : Nat) (x0 x1 : D) (h : Hh) : C (k + 1) n_shut [x0, x1] h = finR false h.length (evSs (F k) G b_shut [some x0, some x1] h) := id rfl
abbrev n_filled : Nat := 15
theorem C_filled (k : Nat) (x0 x1 : D) (h : Hh) : C (k + 1) n_filled [x0, x1] h = finR false h.length (evSs (F k) G b_filled [some x0, some x1, none] h) := id rfl
abbrev n_turned : Nat := 16
theorem C_turned (k : Nat) (x0 : D) (h : Hh) : C (k + 1) n_turned [x0] h = finR false h.length (evSs (F k) G b_turned [some x0, none, none] h) := id rfl
abbrev n_carried : Nat := 17
theorem C_carried (k : Nat) (x0 : D) (h : Hh) : C (k + 1) n_carried [x0] h = finR false h.length (evSs (F k) G b_carried [some x0] h) := id rfl
abbrev n__law_well : Nat := 18
theorem C__law_well (k : Nat) (x0 : D) (h : Hh) : C (k + 1) n__law_well [x0] h = finR false h.length (evSs (F k) G b__law_well [some x0, none] h) := id rfl
abbrev n__law_draw : Nat := 19
theorem C__law_draw (k : Nat) (x0 x1 : D) (h : Hh) : C (k + 1) n__law_draw [x0, x1] h = finR false h.length (evSs (F k) G b__law_draw [some x0, some x1, none] h) := id rfl
abbrev n__law_same : Nat := 20
theorem C__law_same (k : Nat) (x0 x1 : D) (h : Hh) : C (k + 1) n__law_same [x0, x1] h = finR false h.length (evSs (F k) G b__law_same [some x0, some x1, none] h) := id rfl
abbrev n__law_opened : Nat := 21
theorem C__law_opened (k : Nat) (x0 x1 x2 : D) (h : Hh) : C (k + 1) n__law_opened [x0, x1, x2] h = finR false h.length (evSs (F k) G b__law_opened [some x0, some x1, some x2, none, none, none] h) := id rfl
abbrev n__law_turned : Nat := 22
theorem C__law_turned (k : Nat) (x0 : D) (h : Hh) : C (k + 1) n__law_turned [x0] h = finR false h.length (evSs (F k) G b__law_turned [some x0, none, none, none] h) := id rfl
abbrev n__law_kind : Nat := 23
theorem C__law_kind (k : Nat) (x0 x1 x2 : D) (h : Hh) : C (k + 1) n__law_kind [x0, x1, x2] h = finR false h.length (evSs (F k) G b__law_kind [some x0, some x1, some x2, none, none, none, none] h) := id rfl
abbrev n__law_filled : Nat := 24
theorem C__law_filled (k : Nat) (x0 x1 : D) (h : Hh) : C (k + 1) n__law_filled [x0, x1] h = finR false h.length (evSs (F k) G b__law_filled [some x0, some x1, none, none] h) := id rfl
abbrev n__law_is_refused : Nat := 25
theorem C__law_is_refused (k : Nat) (x0 : D) (h : Hh) : C (k + 1) n__law_is_refused [x0] h = finR false h.length (evSs (F k) G b__law_is_refused [some x0, none] h) := id rfl
abbrev n__law_no_kind : Nat := 26
theorem C__law_no_kind (k : Nat) (x0 x1 : D) (h : Hh) : C (k + 1) n__law_no_kind [x0, x1] h = finR false h.length (evSs (F k) G b__law_no_kind [some x0, some x1, none] h) := id rfl
abbrev n__law_opens_alike : Nat := 27
theorem C__law_opens_alike (k : Nat) (x0 x1 : D) (h : Hh) : C (k + 1) n__law_opens_alike [x0, x1] h = finR false h.length (evSs (F k) G b__law_opens_alike [some x0, some x1, none, none, none, none, none, none, none, none, none, none, none] h) := id rfl
abbrev n__law_great_right : Nat := 28
theorem C__law_great_right (k : Nat) (x0 : D) (h : Hh) : C (k + 1) n__law_great_right [x0] h = finR false h.length (evSs (F k) G b__law_great_right [some x0, none, none] h) := id rfl
abbrev n_law : Nat := 29
theorem C_law (k : Nat) (x0 : D) (h : Hh) : C (k + 1) n_law [x0] h = finR false h.length (evSs (F k) G b_law [some x0, none, none, none, none, none, none, none, none, none, none, none, none] h) := id rfl
end K22
end

section
/-! KdA: kinds as a type of their own; what is replaced at their variables. No program in sight. -/
set_option maxRecDepth 100000
namespace Kn
open PySem PV
inductive A2 {α β : Type} (P : α → β → Prop) : List α → List β → Prop
  | nil : A2 P [] []
  | cons {a b as bs} : P a b → A2 P as bs → A2 P (a :: as) (b :: bs)
theorem A2.len {α β : Type} {P : α → β → Prop} {xs : List α} {ys : List β} (h : A2 P xs ys) : xs.length = ys.length := by
  induction h with
  | nil => rfl
  | cons _ _ ih => simp [ih]
theorem A2.app {α β : Type} {P : α → β → Prop} {xs xs' : List α} {ys ys' : List β} (h : A2 P xs ys) (h' : A2 P xs' ys') : A2 P (xs ++ xs') (ys ++ ys') := by
  induction h with
  | nil => exact h'
  | cons p _ ih => exact .cons p ih
theorem A2.imp {α β : Type} {P Q : α → β → Prop} {xs : List α} {ys : List β} (h : A2 P xs ys) (f : ∀ a b, P a b → Q a b) : A2 Q xs ys := by
  induction h with
  | nil => exact .nil
  | cons p _ ih => exact .cons (f _ _ p) ih
theorem A2.get {α β : Type} {P : α → β → Prop} : ∀ {xs : List α} {ys : List β} {k : Nat} {x : α}, A2 P xs ys → xs[k]? = some x → ∃ y, ys[k]? = some y ∧ P x y
  | _, _, _, _, .nil, e => (by simp at e)
  | _, _, 0, _, .cons p _, e => by simp at e; subst e; exact ⟨_, rfl, p⟩
  | _, _, k + 1, _, .cons _ t, e => by
    obtain ⟨y, h1, h2⟩ := A2.get (k := k) t (by simpa using e)
    exact ⟨y, by simpa using h1, h2⟩
theorem A2.of_get {α β : Type} {P : α → β → Prop} : ∀ {xs : List α} {ys : List β}, xs.length = ys.length → (∀ (k : Nat) (x : α) (y : β), xs[k]? = some x → ys[k]? = some y → P x y) → A2 P xs ys
  | [], [], _, _ => .nil
  | [], _ :: _, hl, _ => by cases hl
  | _ :: _, [], hl, _ => by cases hl
  | x :: xs, y :: ys, hl, h => .cons (h 0 x y rfl rfl) (A2.of_get (Nat.succ.inj hl) fun k a b ha hb => h (k + 1) a b (by simpa using ha) (by simpa using hb))
theorem lcA {turn : D → Hh → R (Option D)} {h : Hh} : ∀ {xs ys : List D} {acc : List D}, A2 (fun x y => turn x h = .ok (some y) h) xs ys → lcLoop (fun _ => true) turn xs acc h = .ok (.lst (acc ++ ys)) h
  | [], _, acc, .nil => by unfold lcLoop; simp
  | x :: xs, _, acc, .cons (b := y) p t => by
    unfold lcLoop
    rw [if_pos rfl, p]
    dsimp only
    rw [lcA t]
    simp
/-- with a filter -/
theorem lcF {turn : D → Hh → R (Option D)} {h : Hh} (g : D → Option D) : ∀ {xs : List D} {acc : List D}, (∀ x ∈ xs, turn x h = .ok (g x) h) → lcLoop (fun _ => true) turn xs acc h = .ok (.lst (acc ++ xs.filterMap g)) h
  | [], acc, _ => by unfold lcLoop; simp
  | x :: xs, acc, p => by
    unfold lcLoop
    rw [if_pos rfl, p x List.mem_cons_self]
    have ih := fun acc => lcF g (xs := xs) (acc := acc) fun y hy => p y (List.mem_cons_of_mem _ hy)
    cases e : g x with
    | none => dsimp only; rw [ih, List.filterMap_cons_none e]
    | some y => dsimp only; rw [ih, List.filterMap_cons_some e]; simp

/-! ### kinds -/
inductive Un where | cel | som | re
inductive Mn where | row | one | room | not (n : Nat) | code (n : Nat)
mutual
inductive Kd where
  | int | free (n : Nat) | var (n : Nat) | un (w : Un) (k : Kd) | mn (m : Mn) (ks : Ks) | to (n : Nat) (ks : Ks) (l : Kd)
inductive Ks where
  | nil | cons (b : D) (k : Kd) (r : Ks)
end
@[simp] def Un.nm : Un → Str
  | .cel => "cell" | .som => "some" | .re => "rec"
@[simp] def Un.bn : Un → Nat
  | .cel => 0 | .som => 1 | .re => 1
@[simp] def Mn.nm : Mn → Str
  | .row => "row" | .one => "one" | .room => "room" | .not _ => "not" | .code _ => "code"
@[simp] def Mn.bn : Mn → Nat
  | .not n => n | .code n => n | _ => 0
mutual
/-- a kind as data -/
def Kd.d : Kd → D
  | .int => .tup [.str "int"]
  | .free n => .tup [.str "free", .int n]
  | .var n => .tup [.str "var", .int n]
  | .un w k => .tup [.str w.nm, k.d]
  | .mn .row ks => .tup [.str "row", .tup ks.ds]
  | .mn .one ks => .tup [.str "one", .tup ks.ds]
  | .mn .room ks => .tup [.str "room", .tup ks.fs]
  | .mn (.not n) ks => .tup [.str "not", .int n, .tup ks.ds]
  | .mn (.code n) ks => .tup [.str "code", .int n, .tup ks.gs]
  | .to n ks l => .tup [.str "to", .int n, .tup ks.ds, l.d]
def Ks.ds : Ks → List D
  | .nil => []
  | .cons _ k r => k.d :: r.ds
def Ks.fs : Ks → List D
  | .nil => []
  | .cons b k r => .tup [k.d, b] :: r.fs
def Ks.gs : Ks → List D
  | .nil => []
  | .cons b k r => .tup [b, k.d] :: r.gs
end
def Ks.len : Ks → Nat
  | .nil => 0
  | .cons _ _ r => r.len + 1
@[simp] theorem ds_len : ∀ ks : Ks, ks.ds.length = ks.len
  | .nil => rfl
  | .cons _ _ r => by show r.ds.length + 1 = r.len + 1; rw [ds_len r]
@[simp] theorem fs_len : ∀ ks : Ks, ks.fs.length = ks.len
  | .nil => rfl
  | .cons _ _ r => by show r.fs.length + 1 = r.len + 1; rw [fs_len r]
@[simp] theorem gs_len : ∀ ks : Ks, ks.gs.length = ks.len
  | .nil => rfl
  | .cons _ _ r => by show r.gs.length + 1 = r.len + 1; rw [gs_len r]
mutual
def Kd.dep : Kd → Nat
  | .un _ k => k.dep + 1
  | .mn _ ks => ks.dep + 1
  | .to _ ks l => max ks.dep l.dep + 1
  | _ => 0
def Ks.dep : Ks → Nat
  | .nil => 0
  | .cons _ k r => max k.dep r.dep
end
mutual
/-- rows are short -/
def Kd.sm : Kd → Prop
  | .un _ k => k.sm
  | .mn _ ks => ks.len ≤ 1000 ∧ ks.sm
  | .to _ ks l => ks.len ≤ 1000 ∧ ks.sm ∧ l.sm
  | _ => True
def Ks.sm : Ks → Prop
  | .nil => True
  | .cons _ k r => k.sm ∧ r.sm
end
/-- the kinds within -/
def Kd.ins : Kd → List D
  | .un _ k => [k.d]
  | .mn _ ks => ks.ds
  | .to _ ks l => ks.ds ++ [l.d]
  | _ => []
def Kd.bn : Kd → Nat
  | .un w _ => w.bn
  | .mn m _ => m.bn
  | .to n _ _ => n
  | _ => 0
/-- other kinds at the variables: g under how many, free, the number -/
abbrev Leaf := Nat → Bool → Nat → Kd
mutual
def Kd.tr (g : Leaf) (u : Nat) : Kd → Kd
  | .int => .int
  | .free n => g u true n
  | .var n => g u false n
  | .un w k => .un w (k.tr g (u + w.bn))
  | .mn m ks => .mn m (ks.tr g (u + m.bn))
  | .to n ks l => .to n (ks.tr g (u + n)) (l.tr g (u + n))
def Ks.tr (g : Leaf) (u : Nat) : Ks → Ks
  | .nil => .nil
  | .cons b k r => .cons b (k.tr g u) (r.tr g u)
end
@[simp] theorem tr_len (g : Leaf) (u : Nat) : ∀ ks : Ks, (ks.tr g u).len = ks.len
  | .nil => rfl
  | .cons _ _ r => by show (r.tr g u).len + 1 = r.len + 1; rw [tr_len g u r]
/-- the kinds within, turned -/
def Kd.tri (g : Leaf) (u : Nat) : Kd → List D
  | .un w k => [(k.tr g (u + w.bn)).d]
  | .mn m ks => (ks.tr g (u + m.bn)).ds
  | .to n ks l => (ks.tr g (u + n)).ds ++ [(l.tr g (u + n)).d]
  | _ => []
/-- the kinds within turned, at a level of their own -/
def Kd.inn (g : Leaf) (v : Nat) : Kd → Kd
  | .un w k => .un w (k.tr g v)
  | .mn m ks => .mn m (ks.tr g v)
  | .to n ks l => .to n (ks.tr g v) (l.tr g v)
  | k => k
def Kd.ini (g : Leaf) (v : Nat) : Kd → List D
  | .un w k => [(k.tr g v).d]
  | .mn m ks => (ks.tr g v).ds
  | .to n ks l => (ks.tr g v).ds ++ [(l.tr g v).d]
  | _ => []
theorem tri_ini (g : Leaf) (u : Nat) (d : Kd) : d.tri g u = d.ini g (u + d.bn) := by cases d <;> rfl
def Kd.leaf : Kd → Bool
  | .int => true | .free _ => true | .var _ => true
  | _ => false
theorem tr_inn (g : Leaf) (u : Nat) {d : Kd} (h : d.leaf = false) : d.tr g u = d.inn g (u + d.bn) := by cases d <;> first | rfl | cases h
mutual
/-- variables in scope -/
def Kd.wk (f u : Nat) : Kd → Prop
  | .int => True
  | .free n => n < f
  | .var n => n < u
  | .un w k => k.wk f (u + w.bn)
  | .mn m ks => ks.wk f (u + m.bn)
  | .to n ks l => ks.wk f (u + n) ∧ l.wk f (u + n)
def Ks.wk (f u : Nat) : Ks → Prop
  | .nil => True
  | .cons _ k r => k.wk f u ∧ r.wk f u
end
mutual
theorem tr_tr (g g' : Leaf) : ∀ (k : Kd) (u : Nat), (k.tr g u).tr g' u = k.tr (fun u f n => (g u f n).tr g' u) u
  | .int, u => rfl
  | .free n, u => rfl
  | .var n, u => rfl
  | .un w k, u => by simp only [Kd.tr, tr_tr g g' k]
  | .mn m ks, u => by simp only [Kd.tr, trs_trs g g' ks]
  | .to n ks l, u => by simp only [Kd.tr, trs_trs g g' ks, tr_tr g g' l]
theorem trs_trs (g g' : Leaf) : ∀ (ks : Ks) (u : Nat), (ks.tr g u).tr g' u = ks.tr (fun u f n => (g u f n).tr g' u) u
  | .nil, u => rfl
  | .cons b k r, u => by simp only [Ks.tr, tr_tr g g' k, trs_trs g g' r]
end
mutual
/-- the same, where they are the same at the variables in scope -/
theorem tr_eq {g g' : Leaf} {F : Nat} : ∀ (k : Kd) (u : Nat), k.wk F u → (∀ v, u ≤ v → (∀ n, n < F → g v true n = g' v true n) ∧ ∀ n, n < v → g v false n = g' v false n) → k.tr g u = k.tr g' u
  | .int, u, _, _ => rfl
  | .free n, u, hw, h => (h u (Nat.le_refl _)).1 n hw
  | .var n, u, hw, h => (h u (Nat.le_refl _)).2 n hw
  | .un w k, u, hw, h => by simp only [Kd.tr]; rw [tr_eq k (u + w.bn) hw fun v hv => h v (by omega)]
  | .mn m ks, u, hw, h => by simp only [Kd.tr]; rw [trs_eq ks (u + m.bn) hw fun v hv => h v (by omega)]
  | .to n ks l, u, hw, h => by simp only [Kd.tr]; rw [trs_eq ks (u + n) hw.1 fun v hv => h v (by omega), tr_eq l (u + n) hw.2 fun v hv => h v (by omega)]
theorem trs_eq {g g' : Leaf} {F : Nat} : ∀ (ks : Ks) (u : Nat), ks.wk F u → (∀ v, u ≤ v → (∀ n, n < F → g v true n = g' v true n) ∧ ∀ n, n < v → g v false n = g' v false n) → ks.tr g u = ks.tr g' u
  | .nil, u, _, _ => rfl
  | .cons b k r, u, hw, h => by simp only [Ks.tr]; rw [tr_eq k u hw.1 h, trs_eq r u hw.2 h]
end
mutual
theorem tr_id : ∀ (k : Kd) (u : Nat), k.tr (fun _ f n => if f then .free n else .var n) u = k
  | .int, u => rfl
  | .free n, u => rfl
  | .var n, u => rfl
  | .un w k, u => by simp only [Kd.tr, tr_id k]
  | .mn m ks, u => by simp only [Kd.tr, trs_id ks]
  | .to n ks l, u => by simp only [Kd.tr, trs_id ks, tr_id l]
theorem trs_id : ∀ (ks : Ks) (u : Nat), ks.tr (fun _ f n => if f then .free n else .var n) u = ks
  | .nil, u => rfl
  | .cons b k r, u => by simp only [Ks.tr, tr_id k, trs_id r]
end
/-- stays as it is -/
theorem tr_stay {g : Leaf} {F : Nat} (k : Kd) (u : Nat) (hw : k.wk F u) (h : ∀ v, u ≤ v → (∀ n, n < F → g v true n = .free n) ∧ ∀ n, n < v → g v false n = .var n) : k.tr g u = k :=
  (tr_eq (g' := fun _ f n => if f then .free n else .var n) k u hw fun v hv => ⟨fun n hn => (h v hv).1 n hn, fun n hn => (h v hv).2 n hn⟩).trans (tr_id k u)
mutual
theorem wk_le {F F' : Nat} : ∀ (k : Kd) {u u' : Nat}, k.wk F u → F ≤ F' → u ≤ u' → k.wk F' u'
  | .int, u, u', _, _, _ => trivial
  | .free n, u, u', hw, hf, hu => Nat.lt_of_lt_of_le hw hf
  | .var n, u, u', hw, hf, hu => Nat.lt_of_lt_of_le hw hu
  | .un w k, u, u', hw, hf, hu => wk_le k (u := u + w.bn) (u' := u' + w.bn) hw hf (by omega)
  | .mn m ks, u, u', hw, hf, hu => wks_le ks (u := u + m.bn) (u' := u' + m.bn) hw hf (by omega)
  | .to n ks l, u, u', hw, hf, hu => ⟨wks_le ks (u := u + n) (u' := u' + n) hw.1 hf (by omega), wk_le l (u := u + n) (u' := u' + n) hw.2 hf (by omega)⟩
theorem wks_le {F F' : Nat} : ∀ (ks : Ks) {u u' : Nat}, ks.wk F u → F ≤ F' → u ≤ u' → ks.wk F' u'
  | .nil, u, u', _, _, _ => trivial
  | .cons b k r, u, u', hw, hf, hu => ⟨wk_le k hw.1 hf hu, wks_le r hw.2 hf hu⟩
end
mutual
/-- scope behind a replacing -/
theorem tr_wk {g : Leaf} {F F' : Nat} {m : Nat → Nat} : ∀ (k : Kd) (u : Nat), k.wk F u → (∀ v, u ≤ v → (∀ n, n < F → (g v true n).wk F' (m v)) ∧ ∀ n, n < v → (g v false n).wk F' (m v)) → (∀ v w, u ≤ v → m (v + w) = m v + w) → (k.tr g u).wk F' (m u)
  | .int, u, _, _, _ => trivial
  | .free n, u, hw, h, _ => (h u (Nat.le_refl _)).1 n hw
  | .var n, u, hw, h, _ => (h u (Nat.le_refl _)).2 n hw
  | .un w k, u, hw, h, hm => by
    have := tr_wk k (u + w.bn) hw (fun v hv => h v (by omega)) fun v x hv => hm v x (by omega)
    rw [hm u w.bn (Nat.le_refl _)] at this; exact this
  | .mn m' ks, u, hw, h, hm => by
    have := trs_wk ks (u + m'.bn) hw (fun v hv => h v (by omega)) fun v x hv => hm v x (by omega)
    rw [hm u m'.bn (Nat.le_refl _)] at this; exact this
  | .to n ks l, u, hw, h, hm => by
    have h1 := trs_wk ks (u + n) hw.1 (fun v hv => h v (by omega)) fun v x hv => hm v x (by omega)
    have h2 := tr_wk l (u + n) hw.2 (fun v hv => h v (by omega)) fun v x hv => hm v x (by omega)
    rw [hm u n (Nat.le_refl _)] at h1 h2
    exact ⟨h1, h2⟩
theorem trs_wk {g : Leaf} {F F' : Nat} {m : Nat → Nat} : ∀ (ks : Ks) (u : Nat), ks.wk F u → (∀ v, u ≤ v → (∀ n, n < F → (g v true n).wk F' (m v)) ∧ ∀ n, n < v → (g v false n).wk F' (m v)) → (∀ v w, u ≤ v → m (v + w) = m v + w) → (ks.tr g u).wk F' (m u)
  | .nil, u, _, _, _ => trivial
  | .cons b k r, u, hw, h, hm => ⟨tr_wk k u hw.1 h hm, trs_wk r u hw.2 h hm⟩
end
mutual
theorem tr_sm {g : Leaf} (h : ∀ v f n, (g v f n).sm) : ∀ (k : Kd) (u : Nat), k.sm → (k.tr g u).sm
  | .int, u, _ => trivial
  | .free n, u, _ => h u true n
  | .var n, u, _ => h u false n
  | .un w k, u, hs => tr_sm h k (u + w.bn) hs
  | .mn m ks, u, hs => ⟨by rw [tr_len]; exact hs.1, trs_sm h ks (u + m.bn) hs.2⟩
  | .to n ks l, u, hs => ⟨by rw [tr_len]; exact hs.1, trs_sm h ks (u + n) hs.2.1, tr_sm h l (u + n) hs.2.2⟩
theorem trs_sm {g : Leaf} (h : ∀ v f n, (g v f n).sm) : ∀ (ks : Ks) (u : Nat), ks.sm → (ks.tr g u).sm
  | .nil, u, _ => trivial
  | .cons b k r, u, hs => ⟨tr_sm h k u hs.1, trs_sm h r u hs.2⟩
end
mutual
theorem tr_dep {g : Leaf} {N : Nat} (h : ∀ v f n, (g v f n).dep ≤ N) : ∀ (k : Kd) (u : Nat), (k.tr g u).dep ≤ k.dep + N
  | .int, u => Nat.zero_le _
  | .free n, u => Nat.le_trans (h u true n) (Nat.le_add_left _ _)
  | .var n, u => Nat.le_trans (h u false n) (Nat.le_add_left _ _)
  | .un w k, u => by have := tr_dep h k (u + w.bn); simp only [Kd.tr, Kd.dep]; omega
  | .mn m ks, u => by have := trs_dep h ks (u + m.bn); simp only [Kd.tr, Kd.dep]; omega
  | .to n ks l, u => by have := trs_dep h ks (u + n); have := tr_dep h l (u + n); simp only [Kd.tr, Kd.dep]; omega
theorem trs_dep {g : Leaf} {N : Nat} (h : ∀ v f n, (g v f n).dep ≤ N) : ∀ (ks : Ks) (u : Nat), (ks.tr g u).dep ≤ ks.dep + N
  | .nil, u => Nat.zero_le _
  | .cons b k r, u => by have := tr_dep h k u; have := trs_dep h r u; simp only [Ks.tr, Ks.dep]; omega
end
/-! ### the replacings of the program -/
/-- an opened binder's -/
def putG (ss : List Kd) : Leaf := fun u f n => if f then .free n else if n < u then .var n else match ss[n - u]? with
  | some k => k
  | none => .var (n - ss.length)
/-- a shut binder's: where an order has a number -/
def shutG (o : List Nat) : Leaf := fun u f n => if f then (if n ∈ o then .var (u + o.idxOf n) else .free n) else if n < u then .var n else .var (n + o.length)
def fillG (ss : List Kd) : Leaf := fun _ f n => if f then ss.getD n .int else .var n
end Kn
end

section
/-! KdI: what is a kind, among any data. No program in sight. -/
set_option maxRecDepth 100000
namespace Kn
open PySem PV
mutual
/-- plain data of a size that walks -/
def pl : D → Bool
  | .non => true
  | .bl _ => true
  | .int _ => true
  | .str x => PyData.strOk x
  | .tup xs => decide (xs.length ≤ 1000000) && pls xs
  | .lst xs => decide (xs.length ≤ 1000000) && pls xs
  | .ref _ => false
  | .fz _ => false
  | .ftup _ => false
def pls : List D → Bool
  | [] => true
  | x :: xs => pl x && pls xs
end
theorem pls_iff : ∀ {xs : List D}, pls xs = true ↔ ∀ x ∈ xs, pl x = true
  | [] => by simp [pls]
  | x :: xs => by simp [pls, pls_iff (xs := xs)]
mutual
theorem pl_lay : ∀ d : D, pl d = true → d.lay = true
  | .non, _ => rfl
  | .bl _, _ => rfl
  | .int _, _ => rfl
  | .str _, h => h
  | .tup xs, h => by simp only [pl, Bool.and_eq_true] at h; exact pls_lays xs h.2
  | .lst xs, h => by simp only [pl, Bool.and_eq_true] at h; exact pls_lays xs h.2
  | .ref _, h => by cases h
  | .fz _, h => by cases h
  | .ftup _, h => by cases h
theorem pls_lays : ∀ xs : List D, pls xs = true → D.lays xs = true
  | [], _ => rfl
  | x :: xs, h => by
    simp only [pls, Bool.and_eq_true] at h
    show (x.lay && D.lays xs) = true
    rw [pl_lay x h.1, pls_lays xs h.2]; rfl
end
/-- plain, and of a depth that == reads -/
def P64 (d : D) : Prop := pl d = true ∧ d.dep ≤ 64
theorem P64.shp {d : D} (h : P64 d) : d.shp = true := by
  unfold D.shp
  rw [pl_lay d h.1, Bool.true_and]
  exact decide_eq_true h.2
theorem P64.sub {xs : List D} (h : P64 (.tup xs)) {x : D} (hx : x ∈ xs) : P64 x := by
  have h1 := h.1
  have h2 : D.deps xs + 1 ≤ 64 := h.2
  simp only [pl, Bool.and_eq_true] at h1
  have := deps_le.mp (Nat.le_refl (D.deps xs)) x hx
  exact ⟨pls_iff.mp h1.2 x hx, by omega⟩
theorem P64.len {xs : List D} (h : P64 (.tup xs)) : xs.length ≤ 1000000 := by
  have h1 := h.1
  simp only [pl, Bool.and_eq_true, decide_eq_true_eq] at h1
  exact h1.1
theorem P64.subd {xs : List D} {n : Nat} (h : (D.tup xs).dep ≤ n + 1) {x : D} (hx : x ∈ xs) : x.dep ≤ n := by
  have h2 : D.deps xs + 1 ≤ n + 1 := h
  have := deps_le.mp (Nat.le_refl (D.deps xs)) x hx
  omega
theorem P64.tl {x : D} {xs : List D} (h : P64 (.tup (x :: xs))) : P64 (.tup xs) := by
  have h1 := h.1
  have h2 : D.deps (x :: xs) + 1 ≤ 64 := h.2
  simp only [pl, pls, Bool.and_eq_true, decide_eq_true_eq, List.length_cons] at h1
  simp only [D.deps] at h2
  refine ⟨?_, ?_⟩
  · simp only [pl, Bool.and_eq_true, decide_eq_true_eq]; exact ⟨by omega, h1.2.2⟩
  · show D.deps xs + 1 ≤ 64; omega
theorem P64.nf {x : D} (h : P64 x) : x.isF = false := by cases x <;> first | rfl | cases h.1
def isHd : D → Bool
  | .tup (.str _ :: _) => true
  | _ => false
def isHds : D → Bool
  | .tup xs => xs.all isHd
  | _ => false
def isPr : D → Bool
  | .tup [_, _] => true
  | _ => false
def isPrs : D → Bool
  | .tup xs => xs.all isPr
  | _ => false
def isNt : D → Bool
  | .int i => decide (0 ≤ i)
  | _ => false
def isBl : D → Bool
  | .bl _ => true
  | _ => false
def fst : D → D
  | .tup (x :: _) => x
  | _ => .non
def snd : D → D
  | .tup (_ :: x :: _) => x
  | _ => .non
def items : D → List D
  | .tup xs => xs
  | _ => []
def ltD : D → D → Bool
  | .int i, .int j => decide (i < j)
  | _, _ => false
def rise : List D → Bool
  | x :: y :: r => ltD x y && rise (y :: r)
  | _ => true
def rising (xs : List D) : Bool := xs.all isNt && rise xs
/-- the head is a variable's -/
def hdV : D → Bool
  | .tup (.str w :: _) => decide (w = "free") || decide (w = "var")
  | _ => false
def bnd (i : Int) : Bool := decide (0 ≤ i) && decide (i ≤ 10000)
def one1 (p : D → Bool) : List D → Bool
  | [x] => p x
  | _ => false
def two2 (p : D → D → Bool) : List D → Bool
  | [x, y] => p x y
  | _ => false
def three3 (p : D → D → D → Bool) : List D → Bool
  | [x, y, z] => p x y z
  | _ => false
def inB : D → Bool
  | .int n => bnd n
  | _ => false
def form (w : Str) (rest : List D) : Bool :=
    if w = "int" then rest.isEmpty
    else if w = "free" ∨ w = "var" then one1 isNt rest
    else if w = "cell" ∨ w = "some" ∨ w = "rec" then one1 (fun x => isHd x && (!decide (w = "rec") || !hdV x)) rest
    else if w = "row" ∨ w = "one" then one1 (fun x => isHds x && (decide (w = "row") || !(items x).isEmpty)) rest
    else if w = "room" then one1 (fun x => isPrs x && (items x).all fun p => isBl (snd p)) rest
    else if w = "not" then two2 (fun n x => inB n && isHds x) rest
    else if w = "to" then three3 (fun n x y => inB n && (isHds x && isHd y)) rest
    else if w = "code" then two2 (fun n x => inB n && (isPrs x && rising ((items x).map fst))) rest
    else false
/-- the kinds within, and how many are bound there; of what has the form -/
def inn (w : Str) (rest : List D) : List D :=
    if w = "cell" ∨ w = "some" ∨ w = "rec" then rest
    else if w = "row" ∨ w = "one" then items (rest.getD 0 .non)
    else if w = "room" then (items (rest.getD 0 .non)).map fst
    else if w = "code" then (items (rest.getD 1 .non)).map snd
    else if w = "to" then items (rest.getD 1 .non) ++ [rest.getD 2 .non]
    else if w = "not" then items (rest.getD 1 .non)
    else []
def numD : D → Int
  | .int i => i
  | _ => 0
def bnn (w : Str) (rest : List D) : Int :=
  if w = "some" ∨ w = "rec" then 1 else if w = "not" ∨ w = "to" ∨ w = "code" then numD (rest.getD 0 .non) else 0
def isK (ws : List Str) (f : Int) : Nat → Int → D → Bool
  | 0, _, _ => false
  | n + 1, u, .tup (.str w :: rest) => (decide (w ∈ ws) || decide (w = "free") || decide (w = "var")) && form w rest &&
      (if w = "free" then decide (numD (rest.getD 0 .non) < f) else if w = "var" then decide (numD (rest.getD 0 .non) < u)
       else (inn w rest).all (isK ws f n (u + bnn w rest)))
  | _ + 1, _, _ => false
def PN (n : Nat) (d : D) : Prop := pl d = true ∧ d.dep ≤ n
theorem PN.p64 {n : Nat} {d : D} (h : PN n d) (hn : n ≤ 64) : P64 d := ⟨h.1, Nat.le_trans h.2 hn⟩
theorem PN.sub {n : Nat} {xs : List D} (h : PN (n + 1) (.tup xs)) {x : D} (hx : x ∈ xs) : PN n x := by
  have h1 := h.1
  have h2 : D.deps xs + 1 ≤ n + 1 := h.2
  simp only [pl, Bool.and_eq_true] at h1
  have := deps_le.mp (Nat.le_refl (D.deps xs)) x hx
  exact ⟨pls_iff.mp h1.2 x hx, by omega⟩
theorem PN.mono {n m : Nat} {d : D} (h : PN n d) (hm : n ≤ m) : PN m d := ⟨h.1, Nat.le_trans h.2 hm⟩
/-- one deeper, of any tuple -/
theorem PN.dn {n : Nat} {xs : List D} (h : PN n (.tup xs)) {x : D} (hx : x ∈ xs) : PN n x ∧ PN (n - 1) x := by
  cases n with
  | zero => have := h.2; simp [D.dep] at this
  | succ n => exact ⟨(h.sub hx).mono (Nat.le_succ n), h.sub hx⟩
theorem one1_eq {p : D → Bool} {r : List D} (h : one1 p r = true) : ∃ x, r = [x] ∧ p x = true := by
  unfold one1 at h
  split at h
  · exact ⟨_, rfl, h⟩
  · cases h
theorem two2_eq {p : D → D → Bool} {r : List D} (h : two2 p r = true) : ∃ x y, r = [x, y] ∧ p x y = true := by
  unfold two2 at h
  split at h
  · exact ⟨_, _, rfl, h⟩
  · cases h
theorem three3_eq {p : D → D → D → Bool} {r : List D} (h : three3 p r = true) : ∃ x y z, r = [x, y, z] ∧ p x y z = true := by
  unfold three3 at h
  split at h
  · exact ⟨_, _, _, rfl, h⟩
  · cases h
theorem isHds_eq {x : D} (h : isHds x = true) : ∃ xs, x = .tup xs ∧ xs.all isHd = true := by
  cases x <;> first | exact ⟨_, rfl, h⟩ | cases h
theorem isPrs_eq {x : D} (h : isPrs x = true) : ∃ xs, x = .tup xs ∧ xs.all isPr = true := by
  cases x <;> first | exact ⟨_, rfl, h⟩ | cases h
theorem isPr_eq {x : D} (h : isPr x = true) : ∃ a b, x = .tup [a, b] := by
  unfold isPr at h
  split at h
  · exact ⟨_, _, rfl⟩
  · cases h
theorem inB_eq {x : D} (h : inB x = true) : ∃ n, x = .int n ∧ 0 ≤ n ∧ n ≤ 10000 := by
  cases x <;> first | exact ⟨_, rfl, by simpa [inB, bnd] using h⟩ | cases h
theorem isNt_eq {x : D} (h : isNt x = true) : ∃ n, x = .int n ∧ 0 ≤ n := by
  cases x <;> first | exact ⟨_, rfl, by simpa [isNt] using h⟩ | cases h
/-- what has the form -/
inductive Fm : Str → List D → Prop
  | int : Fm "int" []
  | free (n : Int) : 0 ≤ n → Fm "free" [.int n]
  | var (n : Int) : 0 ≤ n → Fm "var" [.int n]
  | cell (x : D) : isHd x = true → Fm "cell" [x]
  | some (x : D) : isHd x = true → Fm "some" [x]
  | rec_ (x : D) : isHd x = true → hdV x = false → Fm "rec" [x]
  | row (xs : List D) : xs.all isHd = true → Fm "row" [.tup xs]
  | one (xs : List D) : xs.all isHd = true → xs.isEmpty = false → Fm "one" [.tup xs]
  | room (xs : List D) : xs.all isPr = true → (xs.all fun p => isBl (snd p)) = true → Fm "room" [.tup xs]
  | not (n : Int) (xs : List D) : 0 ≤ n → n ≤ 10000 → xs.all isHd = true → Fm "not" [.int n, .tup xs]
  | to (n : Int) (xs : List D) (l : D) : 0 ≤ n → n ≤ 10000 → xs.all isHd = true → isHd l = true → Fm "to" [.int n, .tup xs, l]
  | code (n : Int) (xs : List D) : 0 ≤ n → n ≤ 10000 → xs.all isPr = true → rising (xs.map fst) = true → Fm "code" [.int n, .tup xs]
theorem form_fm {w : Str} {rest : List D} (h : form w rest = true) : Fm w rest := by
  unfold form at h
  split at h
  · rename_i e; subst e
    cases rest with
    | nil => exact .int
    | cons _ _ => cases h
  split at h
  · rename_i e
    obtain ⟨x, rfl, hx⟩ := one1_eq h
    obtain ⟨n, rfl, hn⟩ := isNt_eq hx
    rcases e with rfl | rfl
    · exact .free n hn
    · exact .var n hn
  split at h
  · rename_i e
    obtain ⟨x, rfl, hx⟩ := one1_eq h
    simp only [Bool.and_eq_true, Bool.or_eq_true] at hx
    rcases e with rfl | rfl | rfl
    · exact .cell x hx.1
    · exact .some x hx.1
    · exact .rec_ x hx.1 (by simpa using hx.2)
  split at h
  · rename_i e
    obtain ⟨x, rfl, hx⟩ := one1_eq h
    simp only [Bool.and_eq_true, Bool.or_eq_true] at hx
    obtain ⟨xs, rfl, ha⟩ := isHds_eq hx.1
    rcases e with rfl | rfl
    · exact .row xs ha
    · exact .one xs ha (by simpa [items] using hx.2)
  split at h
  · rename_i e; subst e
    obtain ⟨x, rfl, hx⟩ := one1_eq h
    simp only [Bool.and_eq_true] at hx
    obtain ⟨xs, rfl, ha⟩ := isPrs_eq hx.1
    exact .room xs ha hx.2
  split at h
  · rename_i e; subst e
    obtain ⟨x, y, rfl, hx⟩ := two2_eq h
    simp only [Bool.and_eq_true] at hx
    obtain ⟨n, rfl, h0, h1⟩ := inB_eq hx.1
    obtain ⟨xs, rfl, ha⟩ := isHds_eq hx.2
    exact .not n xs h0 h1 ha
  split at h
  · rename_i e; subst e
    obtain ⟨x, y, z, rfl, hx⟩ := three3_eq h
    simp only [Bool.and_eq_true] at hx
    obtain ⟨n, rfl, h0, h1⟩ := inB_eq hx.1
    obtain ⟨xs, rfl, ha⟩ := isHds_eq hx.2.1
    exact .to n xs z h0 h1 ha hx.2.2
  split at h
  · rename_i e; subst e
    obtain ⟨x, y, rfl, hx⟩ := two2_eq h
    simp only [Bool.and_eq_true] at hx
    obtain ⟨n, rfl, h0, h1⟩ := inB_eq hx.1
    obtain ⟨xs, rfl, ha⟩ := isPrs_eq hx.2.1
    exact .code n xs h0 h1 ha hx.2.2
  · cases h
/-- the kinds within are less deep -/
theorem inn_sub {n : Nat} {w : Str} {rest : List D} (f : Fm w rest) (h : PN (n + 1) (.tup (.str w :: rest))) {x : D} (hx : x ∈ inn w rest) : PN n x := by
  have hr : ∀ y ∈ rest, PN n y := fun y hy => h.sub (List.mem_cons_of_mem _ hy)
  have tp : ∀ {xs : List D}, D.tup xs ∈ rest → ∀ y ∈ xs, PN n y := fun hm y hy => ((hr _ hm).dn hy).1
  have pr : ∀ {xs : List D}, D.tup xs ∈ rest → xs.all isPr = true → ∀ y ∈ xs, PN n (fst y) ∧ PN n (snd y) := fun {xs} hm ha y hy => by
    obtain ⟨a, b, rfl⟩ := isPr_eq (List.all_eq_true.mp ha y hy)
    have q := tp hm _ hy
    exact ⟨(q.dn (x := a) (by simp)).1, (q.dn (x := b) (by simp)).1⟩
  cases f with
  | int => simp [inn] at hx
  | free m _ => simp [inn] at hx
  | var m _ => simp [inn] at hx
  | cell y _ => simp [inn] at hx; subst hx; exact hr _ (by simp)
  | some y _ => simp [inn] at hx; subst hx; exact hr _ (by simp)
  | rec_ y _ _ => simp [inn] at hx; subst hx; exact hr _ (by simp)
  | row xs _ => simp [inn, items] at hx; exact tp (by simp) x hx
  | one xs _ _ => simp [inn, items] at hx; exact tp (by simp) x hx
  | room xs ha _ =>
    simp [inn, items] at hx
    obtain ⟨y, hy, rfl⟩ := hx
    exact (pr (by simp) ha y hy).1
  | not m xs _ _ _ => simp [inn, items] at hx; exact tp (by simp) x hx
  | to m xs l _ _ _ _ =>
    simp [inn, items] at hx
    rcases hx with hx | rfl
    · exact tp (by simp) x hx
    · exact hr _ (by simp)
  | code m xs _ _ ha _ =>
    simp [inn, items] at hx
    obtain ⟨y, hy, rfl⟩ := hx
    exact (pr (by simp) ha y hy).2
end Kn
end

section
/-! KdK: kinds of told words, in scope. No program in sight. -/
set_option maxRecDepth 100000
namespace Kn
open PySem PV
def Ks.tgs : Ks → List D
  | .nil => []
  | .cons b _ r => b :: r.tgs
/-- the tags are of the sort that the word wants -/
def Mn.tagOk : Mn → Ks → Prop
  | .room, ks => ks.tgs.all isBl = true
  | .code _, ks => rising ks.tgs = true
  | .one, ks => 0 < ks.len
  | _, _ => True
mutual
def Kd.ok (ws : List Str) (f u : Nat) : Kd → Prop
  | .int => Str.ofString "int" ∈ ws
  | .free n => n < f
  | .var n => n < u
  | .un w k => w.nm ∈ ws ∧ (w = .re → hdV k.d = false) ∧ k.ok ws f (u + w.bn)
  | .mn m ks => m.nm ∈ ws ∧ m.bn ≤ 10000 ∧ m.tagOk ks ∧ ks.ok ws f (u + m.bn)
  | .to n ks l => Str.ofString "to" ∈ ws ∧ n ≤ 10000 ∧ ks.ok ws f (u + n) ∧ l.ok ws f (u + n)
def Ks.ok (ws : List Str) (f u : Nat) : Ks → Prop
  | .nil => True
  | .cons _ k r => k.ok ws f u ∧ r.ok ws f u
end
mutual
theorem ok_wk {ws : List Str} {f : Nat} : ∀ (k : Kd) {u : Nat}, k.ok ws f u → k.wk f u
  | .int, _, _ => trivial
  | .free n, _, h => h
  | .var n, _, h => h
  | .un w k, _, h => ok_wk k h.2.2
  | .mn m ks, _, h => oks_wk ks h.2.2.2
  | .to n ks l, _, h => ⟨oks_wk ks h.2.2.1, ok_wk l h.2.2.2⟩
theorem oks_wk {ws : List Str} {f : Nat} : ∀ (ks : Ks) {u : Nat}, ks.ok ws f u → ks.wk f u
  | .nil, _, _ => trivial
  | .cons _ k r, _, h => ⟨ok_wk k h.1, oks_wk r h.2⟩
end
theorem hd_d (k : Kd) : isHd k.d = true := by
  cases k with
  | mn m ks => cases m <;> rfl
  | un w k => rfl
  | _ => rfl
theorem hd_ds : ∀ ks : Ks, ks.ds.all isHd = true
  | .nil => rfl
  | .cons b k r => by show (isHd k.d && r.ds.all isHd) = true; rw [hd_d, hd_ds r]; rfl
theorem pr_fs : ∀ ks : Ks, ks.fs.all isPr = true
  | .nil => rfl
  | .cons b k r => by show (true && r.fs.all isPr) = true; rw [pr_fs r]; rfl
theorem pr_gs : ∀ ks : Ks, ks.gs.all isPr = true
  | .nil => rfl
  | .cons b k r => by show (true && r.gs.all isPr) = true; rw [pr_gs r]; rfl
theorem fs_fst : ∀ ks : Ks, ks.fs.map fst = ks.ds
  | .nil => rfl
  | .cons b k r => by show k.d :: r.fs.map fst = _; rw [fs_fst r]; rfl
theorem gs_snd : ∀ ks : Ks, ks.gs.map snd = ks.ds
  | .nil => rfl
  | .cons b k r => by show k.d :: r.gs.map snd = _; rw [gs_snd r]; rfl
theorem gs_fst : ∀ ks : Ks, ks.gs.map fst = ks.tgs
  | .nil => rfl
  | .cons b k r => by show b :: r.gs.map fst = _; rw [gs_fst r]; rfl
theorem fs_bl : ∀ ks : Ks, (ks.fs.all fun p => isBl (snd p)) = ks.tgs.all isBl
  | .nil => rfl
  | .cons b k r => by show (isBl b && r.fs.all _) = _; rw [fs_bl r]; rfl
theorem ds_ne : ∀ {ks : Ks}, 0 < ks.len → ks.ds.isEmpty = false
  | .cons b k r, _ => rfl
mutual
theorem isK_kd {ws : List Str} {f : Nat} : ∀ (k : Kd) (u n : Nat), k.ok ws f u → k.dep < n → isK ws f n (u : Int) k.d = true
  | .int, u, n + 1, h, _ => by
    have h : Str.ofString "int" ∈ ws := h
    simp [Kd.d, isK, form, inn, h]
  | .free v, u, n + 1, h, _ => by
    have h : v < f := h
    simp [Kd.d, isK, form, one1, isNt, numD, h]
  | .var v, u, n + 1, h, _ => by
    have h : v < u := h
    simp [Kd.d, isK, form, one1, isNt, numD, h]
  | .un w k, u, n + 1, h, hd => by
    have h1 := h.1
    have h2 := h.2.1
    have ih := isK_kd k (u + w.bn) n h.2.2 (by simp [Kd.dep] at hd; omega)
    cases w with
    | cel => simp at h1 ih; simp [Kd.d, isK, form, one1, hd_d, inn, bnn, h1, ih]
    | som => simp at h1 ih; simp [Kd.d, isK, form, one1, hd_d, inn, bnn, h1, ih]
    | re => simp at h1 ih; simp [Kd.d, isK, form, one1, hd_d, inn, bnn, h1, ih, h2 rfl]
  | .mn m ks, u, n + 1, h, hd => by
    have h1 := h.1
    have h2 := h.2.1
    have h3 := h.2.2.1
    have ih := isKs_kd ks (u + m.bn) n h.2.2.2 (by simp [Kd.dep] at hd; omega)
    cases m with
    | row => simp only [Mn.bn, Mn.nm, Nat.add_zero] at h1 ih; simp [Kd.d, isK, form, one1, isHds, hd_ds, inn, bnn, h1, items, -List.all_eq_true]; exact ih
    | one => simp only [Mn.bn, Mn.nm, Nat.add_zero] at h1 ih; simp [Kd.d, isK, form, one1, isHds, hd_ds, inn, bnn, h1, items, ds_ne h3, -List.all_eq_true]; exact ih
    | room =>
      simp only [Mn.bn, Mn.nm, Nat.add_zero] at h1 ih
      have h3 : ks.tgs.all isBl = true := h3
      simp only [Kd.d, isK, form, inn, bnn]
      simp [one1, isPrs, pr_fs, fs_bl, fs_fst, h1, items, h3, -List.all_eq_true]; exact ih
    | not b =>
      simp only [Mn.bn, Mn.nm] at h1 h2 ih
      have h2' : (b : Int) ≤ 10000 := by omega
      simp [Kd.d, isK, form, two2, isHds, hd_ds, inn, bnn, h1, items, inB, bnd, h2', numD, -List.all_eq_true]
      simpa using ih
    | code b =>
      simp only [Mn.bn, Mn.nm] at h1 h2 ih
      have h2' : (b : Int) ≤ 10000 := by omega
      have h3 : rising ks.tgs = true := h3
      simp only [Kd.d, isK, form, inn, bnn]
      simp [two2, isPrs, pr_gs, gs_fst, gs_snd, h1, items, inB, bnd, h2', numD, h3, -List.all_eq_true]
      simpa using ih
  | .to b ks l, u, n + 1, h, hd => by
    have h1 := h.1
    have h2 := h.2.1
    have ih := isKs_kd ks (u + b) n h.2.2.1 (by simp [Kd.dep] at hd; omega)
    have il := isK_kd l (u + b) n h.2.2.2 (by simp [Kd.dep] at hd; omega)
    have h2' : (b : Int) ≤ 10000 := by omega
    simp only [Int.natCast_add] at ih il
    simp only [Kd.d, isK, form, inn, bnn]
    simp [three3, isHds, hd_ds, hd_d, h1, items, inB, bnd, h2', numD, il, -List.all_eq_true]
    exact ih
theorem isKs_kd {ws : List Str} {f : Nat} : ∀ (ks : Ks) (u n : Nat), ks.ok ws f u → ks.dep < n → ks.ds.all (isK ws f n (u : Int)) = true
  | .nil, u, n, _, _ => rfl
  | .cons b k r, u, n, h, hd => by
    show (isK ws f n u k.d && r.ds.all _) = true
    rw [isK_kd k u n h.1 (by simp [Ks.dep] at hd; omega), isKs_kd r u n h.2 (by simp [Ks.dep] at hd; omega)]; rfl
end
mutual
theorem pl_kd {ws : List Str} {f : Nat} (hw : ∀ b : D, isBl b = true ∨ isNt b = true → pl b = true) : ∀ (k : Kd) (u : Nat), k.ok ws f u → k.sm → pl k.d = true
  | .int, u, _, _ => by simp [Kd.d, pl, pls]
  | .free v, u, _, _ => by simp [Kd.d, pl, pls]
  | .var v, u, _, _ => by simp [Kd.d, pl, pls]
  | .un w k, u, h, hs => by
    have ih := pl_kd hw k (u + w.bn) h.2.2 hs
    cases w <;> simp [Kd.d, pl, pls, ih]
  | .mn m ks, u, h, hs => by
    have ih := pls_kd hw ks (u + m.bn) h.2.2.2 hs.2
    have hz : ks.len ≤ 1000000 := by have := hs.1; omega
    cases m with
    | row => simp [Kd.d, pl, pls, ih, hz]
    | one => simp [Kd.d, pl, pls, ih, hz]
    | not b => simp [Kd.d, pl, pls, ih, hz]
    | room =>
      have h3 : ks.tgs.all isBl = true := h.2.2.1
      have := pls_fs ks ih fun b hb => hw b (.inl (List.all_eq_true.mp h3 b hb))
      simp [Kd.d, pl, pls, this, hz]
    | code b =>
      have h3 : rising ks.tgs = true := h.2.2.1
      simp only [rising, Bool.and_eq_true] at h3
      have := pls_gs ks ih fun b hb => hw b (.inr (List.all_eq_true.mp h3.1 b hb))
      simp [Kd.d, pl, pls, this, hz]
  | .to b ks l, u, h, hs => by
    have ih := pls_kd hw ks (u + b) h.2.2.1 hs.2.1
    have il := pl_kd hw l (u + b) h.2.2.2 hs.2.2
    have hz : ks.len ≤ 1000000 := by have := hs.1; omega
    simp [Kd.d, pl, pls, ih, il, hz]
theorem pls_kd {ws : List Str} {f : Nat} (hw : ∀ b : D, isBl b = true ∨ isNt b = true → pl b = true) : ∀ (ks : Ks) (u : Nat), ks.ok ws f u → ks.sm → pls ks.ds = true
  | .nil, u, _, _ => rfl
  | .cons b k r, u, h, hs => by
    show (pl k.d && pls r.ds) = true
    rw [pl_kd hw k u h.1 hs.1, pls_kd hw r u h.2 hs.2]; rfl
theorem pls_fs : ∀ (ks : Ks), pls ks.ds = true → (∀ b ∈ ks.tgs, pl b = true) → pls ks.fs = true
  | .nil, _, _ => rfl
  | .cons b k r, h, hb => by
    simp only [Ks.ds, pls, Bool.and_eq_true] at h
    have h1 := pls_fs r h.2 fun c hc => hb c (List.mem_cons_of_mem _ hc)
    have h2 := hb b List.mem_cons_self
    simp [Ks.fs, pl, pls, h.1, h1, h2]
theorem pls_gs : ∀ (ks : Ks), pls ks.ds = true → (∀ b ∈ ks.tgs, pl b = true) → pls ks.gs = true
  | .nil, _, _ => rfl
  | .cons b k r, h, hb => by
    simp only [Ks.ds, pls, Bool.and_eq_true] at h
    have h1 := pls_gs r h.2 fun c hc => hb c (List.mem_cons_of_mem _ hc)
    have h2 := hb b List.mem_cons_self
    simp [Ks.gs, pl, pls, h.1, h1, h2]
end
theorem tag_pl (b : D) (h : isBl b = true ∨ isNt b = true) : pl b = true := by
  rcases h with h | h <;> cases b <;> first | rfl | cases h
theorem kd_pl {ws : List Str} {f u : Nat} {k : Kd} (h : k.ok ws f u) (hs : k.sm) : pl k.d = true := pl_kd tag_pl k u h hs
theorem tag_dep {b : D} (h : isBl b = true ∨ isNt b = true) : b.dep = 0 := by
  rcases h with h | h <;> cases b <;> first | rfl | cases h
mutual
theorem dep_kd {ws : List Str} {f : Nat} : ∀ (k : Kd) (u : Nat), k.ok ws f u → k.d.dep ≤ 3 * k.dep + 1
  | .int, u, _ => by simp [Kd.d, D.dep, D.deps]
  | .free v, u, _ => by simp [Kd.d, D.dep, D.deps]
  | .var v, u, _ => by simp [Kd.d, D.dep, D.deps]
  | .un w k, u, h => by
    have ih := dep_kd k (u + w.bn) h.2.2
    cases w <;> simp [Kd.d, D.dep, D.deps, Kd.dep] <;> omega
  | .mn m ks, u, h => by
    have ih := deps_kd ks (u + m.bn) h.2.2.2
    cases m with
    | row => simp [Kd.d, D.dep, D.deps, Kd.dep]; omega
    | one => simp [Kd.d, D.dep, D.deps, Kd.dep]; omega
    | not b => simp [Kd.d, D.dep, D.deps, Kd.dep]; omega
    | room =>
      have h3 : ks.tgs.all isBl = true := h.2.2.1
      have := deps_fs ks fun b hb => .inl (List.all_eq_true.mp h3 b hb)
      simp [Kd.d, D.dep, D.deps, Kd.dep]; omega
    | code b =>
      have h3 : rising ks.tgs = true := h.2.2.1
      simp only [rising, Bool.and_eq_true] at h3
      have := deps_gs ks fun b hb => .inr (List.all_eq_true.mp h3.1 b hb)
      simp [Kd.d, D.dep, D.deps, Kd.dep]; omega
  | .to b ks l, u, h => by
    have ih := deps_kd ks (u + b) h.2.2.1
    have il := dep_kd l (u + b) h.2.2.2
    simp [Kd.d, D.dep, D.deps, Kd.dep]; omega
theorem deps_kd {ws : List Str} {f : Nat} : ∀ (ks : Ks) (u : Nat), ks.ok ws f u → D.deps ks.ds ≤ 3 * ks.dep + 1
  | .nil, u, _ => by simp [Ks.ds, D.deps]
  | .cons b k r, u, h => by
    have h1 := dep_kd k u h.1
    have h2 := deps_kd r u h.2
    simp [Ks.ds, D.deps, Ks.dep]; omega
theorem deps_fs : ∀ (ks : Ks), (∀ b ∈ ks.tgs, isBl b = true ∨ isNt b = true) → D.deps ks.fs ≤ D.deps ks.ds + 1
  | .nil, _ => by simp [Ks.fs, D.deps]
  | .cons b k r, hb => by
    have h1 := deps_fs r fun c hc => hb c (List.mem_cons_of_mem _ hc)
    have h2 := tag_dep (hb b List.mem_cons_self)
    simp [Ks.fs, Ks.ds, D.deps, D.dep, h2]; omega
theorem deps_gs : ∀ (ks : Ks), (∀ b ∈ ks.tgs, isBl b = true ∨ isNt b = true) → D.deps ks.gs ≤ D.deps ks.ds + 1
  | .nil, _ => by simp [Ks.gs, D.deps]
  | .cons b k r, hb => by
    have h1 := deps_gs r fun c hc => hb c (List.mem_cons_of_mem _ hc)
    have h2 := tag_dep (hb b List.mem_cons_self)
    simp [Ks.gs, Ks.ds, D.deps, D.dep, h2]; omega
end
theorem kd_pn {ws : List Str} {f u : Nat} {k : Kd} (h : k.ok ws f u) (hs : k.sm) {n : Nat} (hd : k.dep ≤ n) : PN (3 * n + 1) k.d := ⟨kd_pl h hs, by have := dep_kd k u h; omega⟩
/-- kinds in a row -/
def Ks.of : List Kd → Ks
  | [] => .nil
  | k :: r => .cons .non k (Ks.of r)
def Ks.ofT : List (D × Kd) → Ks
  | [] => .nil
  | (b, k) :: r => .cons b k (Ks.ofT r)
theorem of_ds : ∀ ks : List Kd, (Ks.of ks).ds = ks.map Kd.d
  | [] => rfl
  | k :: r => by show k.d :: (Ks.of r).ds = _; rw [of_ds r]; rfl
theorem of_len : ∀ ks : List Kd, (Ks.of ks).len = ks.length
  | [] => rfl
  | k :: r => by show (Ks.of r).len + 1 = _; rw [of_len r]; rfl
theorem ofT_fs : ∀ ks : List (D × Kd), (Ks.ofT ks).fs = ks.map fun p => .tup [p.2.d, p.1]
  | [] => rfl
  | (b, k) :: r => by show D.tup [k.d, b] :: (Ks.ofT r).fs = _; rw [ofT_fs r]; rfl
theorem ofT_gs : ∀ ks : List (D × Kd), (Ks.ofT ks).gs = ks.map fun p => .tup [p.1, p.2.d]
  | [] => rfl
  | (b, k) :: r => by show D.tup [b, k.d] :: (Ks.ofT r).gs = _; rw [ofT_gs r]; rfl
theorem ofT_tgs : ∀ ks : List (D × Kd), (Ks.ofT ks).tgs = ks.map (·.1)
  | [] => rfl
  | (b, k) :: r => by show b :: (Ks.ofT r).tgs = _; rw [ofT_tgs r]; rfl
theorem ofT_len : ∀ ks : List (D × Kd), (Ks.ofT ks).len = ks.length
  | [] => rfl
  | (b, k) :: r => by show (Ks.ofT r).len + 1 = _; rw [ofT_len r]; rfl
/-- a good kind -/
structure Gd (ws : List Str) (f u dp : Nat) (k : Kd) : Prop where
  ok : k.ok ws f u
  sm : k.sm
  dep : k.dep ≤ dp
structure Gds (ws : List Str) (f u dp : Nat) (k : Ks) : Prop where
  ok : k.ok ws f u
  sm : k.sm
  dep : k.dep ≤ dp
theorem of_gd {ws : List Str} {f u dp : Nat} : ∀ {ks : List Kd}, (∀ k ∈ ks, Gd ws f u dp k) → Gds ws f u dp (Ks.of ks)
  | [], _ => ⟨trivial, trivial, Nat.zero_le _⟩
  | k :: r, h => by
    have h1 := h k List.mem_cons_self
    have h2 := of_gd fun c hc => h c (List.mem_cons_of_mem _ hc)
    exact ⟨⟨h1.ok, h2.ok⟩, ⟨h1.sm, h2.sm⟩, Nat.max_le.mpr ⟨h1.dep, h2.dep⟩⟩
theorem ofT_gd {ws : List Str} {f u dp : Nat} : ∀ {ks : List (D × Kd)}, (∀ k ∈ ks, Gd ws f u dp k.2) → Gds ws f u dp (Ks.ofT ks)
  | [], _ => ⟨trivial, trivial, Nat.zero_le _⟩
  | (b, k) :: r, h => by
    have h1 := h (b, k) List.mem_cons_self
    have h2 := ofT_gd fun c hc => h c (List.mem_cons_of_mem _ hc)
    exact ⟨⟨h1.ok, h2.ok⟩, ⟨h1.sm, h2.sm⟩, Nat.max_le.mpr ⟨h1.dep, h2.dep⟩⟩
/-! ### loops that draw -/
theorem lcS {Z : Type} {turn : D → Hh → R (Option D)} {Inv : Hh → Prop} (e : Z → D) (Q : Z → Prop) : ∀ {xs : List D} {acc : List D} {h : Hh}, Inv h → (∀ x ∈ xs, ∀ h, Inv h → ∃ z h', turn x h = .ok (some (e z)) h' ∧ Q z ∧ Inv h') →
    ∃ (zs : List Z) (h' : Hh), lcLoop (fun _ => true) turn xs acc h = .ok (.lst (acc ++ zs.map e)) h' ∧ zs.length = xs.length ∧ (∀ z ∈ zs, Q z) ∧ Inv h'
  | [], acc, h, hi, _ => ⟨[], h, by unfold lcLoop; simp, rfl, by simp, hi⟩
  | x :: xs, acc, h, hi, t => by
    obtain ⟨z, h1, e1, q1, i1⟩ := t x List.mem_cons_self h hi
    obtain ⟨zs, h2, e2, l2, q2, i2⟩ := lcS e Q (xs := xs) (acc := acc ++ [e z]) i1 fun y hy => t y (List.mem_cons_of_mem _ hy)
    refine ⟨z :: zs, h2, ?_, by simp [l2], ?_, i2⟩
    · unfold lcLoop
      rw [if_pos rfl, e1]
      dsimp only
      rw [e2]; simp
    · intro y hy
      (rcases List.mem_cons.mp hy with rfl | hy)
      · exact q1
      · exact q2 y hy
theorem lcW {turn : D → Hh → R (Option D)} {h : Hh} (p : Str → Bool) : ∀ {xs : List Str} {acc : List D}, (∀ x ∈ xs, turn (.str x) h = .ok (if p x then some (.str x) else none) h) → lcLoop (fun _ => true) turn (xs.map D.str) acc h = .ok (.lst (acc ++ (xs.filter p).map D.str)) h
  | [], acc, _ => by unfold lcLoop; simp
  | x :: xs, acc, t => by
    show lcLoop _ turn (D.str x :: xs.map D.str) acc h = _
    unfold lcLoop
    rw [if_pos rfl, t x List.mem_cons_self]
    have ih := fun acc => lcW p (xs := xs) (acc := acc) fun y hy => t y (List.mem_cons_of_mem _ hy)
    cases q : p x with
    | false => simp only [Bool.false_eq_true, if_false]; rw [ih, List.filter_cons_of_neg (by simp [q])]
    | true => simp only [if_true]; rw [ih, List.filter_cons_of_pos q]; simp
end Kn
end

section
/-! KdP: replacings of good kinds. No program in sight. -/
set_option maxRecDepth 100000
namespace Kn
open PySem PV
mutual
/-- the same, where they are the same at the variables in scope, s more around -/
theorem tr_eqs {g g' : Leaf} {F s : Nat} : ∀ (k : Kd) (u : Nat), k.wk F (u + s) → (∀ v, u ≤ v → (∀ n, n < F → g v true n = g' v true n) ∧ ∀ n, n < v + s → g v false n = g' v false n) → k.tr g u = k.tr g' u
  | .int, u, _, _ => rfl
  | .free n, u, hw, h => (h u (Nat.le_refl _)).1 n hw
  | .var n, u, hw, h => (h u (Nat.le_refl _)).2 n hw
  | .un w k, u, hw, h => by
    have hw : k.wk F (u + s + w.bn) := hw
    simp only [Kd.tr]; rw [tr_eqs k (u + w.bn) (by rw [Nat.add_right_comm]; exact hw) fun v hv => h v (by omega)]
  | .mn m ks, u, hw, h => by
    have hw : ks.wk F (u + s + m.bn) := hw
    simp only [Kd.tr]; rw [trs_eqs ks (u + m.bn) (by rw [Nat.add_right_comm]; exact hw) fun v hv => h v (by omega)]
  | .to n ks l, u, hw, h => by
    have h1 : ks.wk F (u + s + n) := hw.1
    have h2 : l.wk F (u + s + n) := hw.2
    simp only [Kd.tr]; rw [trs_eqs ks (u + n) (by rw [Nat.add_right_comm]; exact h1) fun v hv => h v (by omega), tr_eqs l (u + n) (by rw [Nat.add_right_comm]; exact h2) fun v hv => h v (by omega)]
theorem trs_eqs {g g' : Leaf} {F s : Nat} : ∀ (ks : Ks) (u : Nat), ks.wk F (u + s) → (∀ v, u ≤ v → (∀ n, n < F → g v true n = g' v true n) ∧ ∀ n, n < v + s → g v false n = g' v false n) → ks.tr g u = ks.tr g' u
  | .nil, u, _, _ => rfl
  | .cons b k r, u, hw, h => by simp only [Ks.tr]; rw [tr_eqs k u hw.1 h, trs_eqs r u hw.2 h]
end
theorem tgs_tr (g : Leaf) (u : Nat) : ∀ ks : Ks, (ks.tr g u).tgs = ks.tgs
  | .nil => rfl
  | .cons b k r => by show b :: (r.tr g u).tgs = _; rw [tgs_tr g u r]; rfl
theorem tagOk_tr {g : Leaf} {u : Nat} {ks : Ks} {m : Mn} (h : m.tagOk ks) : m.tagOk (ks.tr g u) := by
  cases m with
  | one => show 0 < (ks.tr g u).len; rw [tr_len]; exact h
  | room => show (ks.tr g u).tgs.all isBl = true; rw [tgs_tr]; exact h
  | code n => show rising (ks.tr g u).tgs = true; rw [tgs_tr]; exact h
  | _ => trivial
theorem hdV_tr {g : Leaf} {u : Nat} {k : Kd} (h : hdV k.d = false) : hdV (k.tr g u).d = false := by
  cases k with
  | int => rfl
  | free n => simp [hdV, Kd.d] at h
  | var n => simp [hdV, Kd.d] at h
  | un w k => cases w <;> simp [hdV, Kd.d, Kd.tr]
  | mn m ks => cases m <;> simp [hdV, Kd.d, Kd.tr]
  | to n ks l => simp [hdV, Kd.d, Kd.tr]
mutual
/-- good kinds stay good; s: how many more the old scope has -/
theorem tr_ok {g : Leaf} {ws : List Str} {F F' s t : Nat} : ∀ (k : Kd) (u : Nat), k.ok ws F (u + s) → (∀ v, u ≤ v → (∀ n, n < F → (g v true n).ok ws F' (v + t)) ∧ ∀ n, n < v + s → (g v false n).ok ws F' (v + t)) → (k.tr g u).ok ws F' (u + t)
  | .int, u, hw, _ => hw
  | .free n, u, hw, h => (h u (Nat.le_refl _)).1 n hw
  | .var n, u, hw, h => (h u (Nat.le_refl _)).2 n hw
  | .un w k, u, hw, h => by
    have h3 : k.ok ws F (u + s + w.bn) := hw.2.2
    have := tr_ok k (u + w.bn) (by rw [Nat.add_right_comm]; exact h3) fun v hv => h v (by omega)
    exact ⟨hw.1, fun e => hdV_tr (hw.2.1 e), by rw [Nat.add_right_comm] at this; exact this⟩
  | .mn m ks, u, hw, h => by
    have h3 : ks.ok ws F (u + s + m.bn) := hw.2.2.2
    have := trs_ok ks (u + m.bn) (by rw [Nat.add_right_comm]; exact h3) fun v hv => h v (by omega)
    exact ⟨hw.1, hw.2.1, tagOk_tr hw.2.2.1, by rw [Nat.add_right_comm] at this; exact this⟩
  | .to n ks l, u, hw, h => by
    have h3 : ks.ok ws F (u + s + n) := hw.2.2.1
    have h4 : l.ok ws F (u + s + n) := hw.2.2.2
    have a := trs_ok ks (u + n) (by rw [Nat.add_right_comm]; exact h3) fun v hv => h v (by omega)
    have b := tr_ok l (u + n) (by rw [Nat.add_right_comm]; exact h4) fun v hv => h v (by omega)
    exact ⟨hw.1, hw.2.1, by rw [Nat.add_right_comm] at a; exact a, by rw [Nat.add_right_comm] at b; exact b⟩
theorem trs_ok {g : Leaf} {ws : List Str} {F F' s t : Nat} : ∀ (ks : Ks) (u : Nat), ks.ok ws F (u + s) → (∀ v, u ≤ v → (∀ n, n < F → (g v true n).ok ws F' (v + t)) ∧ ∀ n, n < v + s → (g v false n).ok ws F' (v + t)) → (ks.tr g u).ok ws F' (u + t)
  | .nil, u, _, _ => trivial
  | .cons b k r, u, hw, h => ⟨tr_ok k u hw.1 h, trs_ok r u hw.2 h⟩
end
mutual
theorem ok_le {ws : List Str} {F F' : Nat} : ∀ (k : Kd) {u u' : Nat}, k.ok ws F u → F ≤ F' → u ≤ u' → k.ok ws F' u'
  | .int, _, _, h, _, _ => h
  | .free n, _, _, h, hf, _ => Nat.lt_of_lt_of_le h hf
  | .var n, _, _, h, _, hu => Nat.lt_of_lt_of_le h hu
  | .un w k, u, u', h, hf, hu => ⟨h.1, h.2.1, ok_le k h.2.2 hf (by omega)⟩
  | .mn m ks, u, u', h, hf, hu => ⟨h.1, h.2.1, h.2.2.1, oks_le ks h.2.2.2 hf (by omega)⟩
  | .to n ks l, u, u', h, hf, hu => ⟨h.1, h.2.1, oks_le ks h.2.2.1 hf (by omega), ok_le l h.2.2.2 hf (by omega)⟩
theorem oks_le {ws : List Str} {F F' : Nat} : ∀ (ks : Ks) {u u' : Nat}, ks.ok ws F u → F ≤ F' → u ≤ u' → ks.ok ws F' u'
  | .nil, _, _, _, _, _ => trivial
  | .cons b k r, _, _, h, hf, hu => ⟨ok_le k h.1 hf hu, oks_le r h.2 hf hu⟩
end
mutual
theorem ok_ws {ws ws' : List Str} {F : Nat} (hs : ∀ w ∈ ws, w ∈ ws') : ∀ (k : Kd) {u : Nat}, k.ok ws F u → k.ok ws' F u
  | .int, _, h => hs _ h
  | .free n, _, h => h
  | .var n, _, h => h
  | .un w k, u, h => ⟨hs _ h.1, h.2.1, ok_ws hs k h.2.2⟩
  | .mn m ks, u, h => ⟨hs _ h.1, h.2.1, h.2.2.1, oks_ws hs ks h.2.2.2⟩
  | .to n ks l, u, h => ⟨hs _ h.1, h.2.1, oks_ws hs ks h.2.2.1, ok_ws hs l h.2.2.2⟩
theorem oks_ws {ws ws' : List Str} {F : Nat} (hs : ∀ w ∈ ws, w ∈ ws') : ∀ (ks : Ks) {u : Nat}, ks.ok ws F u → ks.ok ws' F u
  | .nil, _, _ => trivial
  | .cons b k r, _, h => ⟨ok_ws hs k h.1, oks_ws hs r h.2⟩
end
/-- closed kinds, put in -/
theorem putG_ok {ws : List Str} {F : Nat} {ss : List Kd} (h : ∀ k ∈ ss, k.ok ws F 0) (v : Nat) : (∀ n, n < F → (putG ss v true n).ok ws F (v + 0)) ∧ ∀ n, n < v + ss.length → (putG ss v false n).ok ws F (v + 0) := by
  refine ⟨fun n hn => hn, fun n hn => ?_⟩
  unfold putG
  (simp only [Bool.false_eq_true, if_false])
  split
  · rename_i hv; exact hv
  · rename_i hv
    have : n - v < ss.length := by omega
    rw [List.getElem?_eq_getElem this]
    exact ok_le _ (h _ (List.getElem_mem this)) (Nat.le_refl _) (Nat.zero_le _)
/-- the first ones, when more are bound -/
theorem putG_ok2 {ws : List Str} {F s : Nat} {ss : List Kd} (h : ∀ k ∈ ss, k.ok ws F 0) (hs : ss.length ≤ s) (v : Nat) : (∀ n, n < F → (putG ss v true n).ok ws F (v + (s - ss.length))) ∧ ∀ n, n < v + s → (putG ss v false n).ok ws F (v + (s - ss.length)) := by
  refine ⟨fun n hn => hn, fun n hn => ?_⟩
  unfold putG
  (simp only [Bool.false_eq_true, if_false])
  split
  · show n < v + (s - ss.length); omega
  · rename_i hv
    by_cases hq : n - v < ss.length
    · rw [List.getElem?_eq_getElem hq]
      exact ok_le _ (h _ (List.getElem_mem hq)) (Nat.le_refl _) (Nat.zero_le _)
    · rw [List.getElem?_eq_none (by omega)]
      show n - ss.length < v + (s - ss.length); omega
theorem putG_sm {ss : List Kd} (h : ∀ k ∈ ss, k.sm) (v : Nat) (f : Bool) (n : Nat) : (putG ss v f n).sm := by
  unfold putG
  split
  · trivial
  · split
    · trivial
    · cases e : ss[n - v]? with
      | none => trivial
      | some k => exact h k (List.mem_of_getElem? e)
theorem putG_dep {ss : List Kd} {N : Nat} (h : ∀ k ∈ ss, k.dep ≤ N) (v : Nat) (f : Bool) (n : Nat) : (putG ss v f n).dep ≤ N := by
  unfold putG
  split
  · exact Nat.zero_le _
  · split
    · exact Nat.zero_le _
    · cases e : ss[n - v]? with
      | none => exact Nat.zero_le _
      | some k => exact h k (List.mem_of_getElem? e)
theorem putG_stay {F : Nat} {ss : List Kd} (k : Kd) (u : Nat) (h : k.wk F 0) : k.tr (putG ss) u = k :=
  tr_stay (F := F) k u (wk_le k h (Nat.le_refl _) (Nat.zero_le _)) fun v hv => ⟨fun n _ => rfl, fun n hn => by unfold putG; simp [hn]⟩
/-- first some, then the others: all -/
theorem put_put {F : Nat} {ss : List Kd} (h : ∀ k ∈ ss, k.wk F 0) (f : Nat) (hf : f ≤ ss.length) (ks : Ks) (hw : ks.wk F ss.length) : (ks.tr (putG (ss.take f)) 0).tr (putG (ss.drop f)) 0 = ks.tr (putG ss) 0 := by
  rw [trs_trs]
  refine trs_eqs (F := F) (s := ss.length) ks 0 (by rw [Nat.zero_add]; exact hw) fun v _ => ⟨fun n _ => rfl, fun n hn => ?_⟩
  have hl : (ss.take f).length = f := by rw [List.length_take]; omega
  by_cases h1 : n < v
  · simp [putG, h1, Kd.tr]
  · by_cases h2 : n - v < f
    · have e1 : (ss.take f)[n - v]? = some ss[n - v] := by rw [List.getElem?_take_of_lt h2, List.getElem?_eq_getElem (by omega)]
      have e2 : ss[n - v]? = some ss[n - v] := List.getElem?_eq_getElem (by omega)
      have a1 : putG (ss.take f) v false n = ss[n - v] := by unfold putG; simp only [Bool.false_eq_true, if_false, h1]; rw [e1]
      have a2 : putG ss v false n = ss[n - v] := by unfold putG; simp only [Bool.false_eq_true, if_false, h1]; rw [e2]
      rw [a1, a2]
      exact putG_stay (F := F) _ v (h _ (List.getElem_mem _))
    · have e1 : (ss.take f)[n - v]? = none := List.getElem?_eq_none (by omega)
      have e2 : ss[n - v]? = some ss[n - v] := List.getElem?_eq_getElem (by omega)
      have a1 : putG (ss.take f) v false n = .var (n - f) := by unfold putG; simp only [Bool.false_eq_true, if_false, h1]; rw [e1, hl]
      have a2 : putG ss v false n = ss[n - v] := by unfold putG; simp only [Bool.false_eq_true, if_false, h1]; rw [e2]
      rw [a1, a2]
      have h3 : ¬ n - f < v := by omega
      have e3 : (ss.drop f)[n - f - v]? = some ss[n - v] := by
        rw [List.getElem?_drop]
        have : f + (n - f - v) = n - v := by omega
        rw [this]; exact e2
      show putG (ss.drop f) v false (n - f) = _
      unfold putG; simp only [Bool.false_eq_true, if_false, h3]; rw [e3]
/-- opened behind shut is filled -/
theorem shut_put (k k0 : Kd) (hw : k.wk 4 0) : (k.tr (shutG [2]) 0).tr (putG [k0]) 0 = k.tr (fillG [.free 0, .free 1, k0, .free 3]) 0 := by
  rw [tr_tr]
  refine tr_eq (F := 4) k 0 hw fun v _ => ⟨fun n hn => ?_, fun n hn => ?_⟩
  · have : n = 0 ∨ n = 1 ∨ n = 2 ∨ n = 3 := by omega
    rcases this with rfl | rfl | rfl | rfl
    · rfl
    · rfl
    · show (Kd.var (v + 0)).tr (putG [k0]) v = _
      simp [Kd.tr, putG, fillG]
    · rfl
  · simp [shutG, hn, Kd.tr, putG, fillG]
end Kn
end

section
/-! KdT: kinds of core, turned. No program in sight. -/
set_option maxRecDepth 100000
namespace Kn
open PySem PV
def CW : List Str := ["cell", "int", "one", "rec", "row", "some", "to"]
def TW : List Str := ["cell", "int", "not", "one", "rec", "row", "some"]
def Ks.snoc : Ks → Kd → Ks
  | .nil, x => .cons .non x .nil
  | .cons b k r, x => .cons b k (r.snoc x)
@[simp] theorem snoc_ds : ∀ (ks : Ks) (x : Kd), (ks.snoc x).ds = ks.ds ++ [x.d]
  | .nil, x => rfl
  | .cons b k r, x => by show k.d :: (r.snoc x).ds = _; rw [snoc_ds r x]; rfl
@[simp] theorem snoc_len : ∀ (ks : Ks) (x : Kd), (ks.snoc x).len = ks.len + 1
  | .nil, x => rfl
  | .cons b k r, x => by show (r.snoc x).len + 1 = r.len + 1 + 1; rw [snoc_len r x]
theorem snoc_tr (g : Leaf) (u : Nat) : ∀ (ks : Ks) (x : Kd), (ks.snoc x).tr g u = (ks.tr g u).snoc (x.tr g u)
  | .nil, x => rfl
  | .cons b k r, x => by show Ks.cons b (k.tr g u) ((r.snoc x).tr g u) = _; rw [snoc_tr g u r x]; rfl
theorem snoc_ok {ws : List Str} {F u : Nat} : ∀ (ks : Ks) (x : Kd), ks.ok ws F u → x.ok ws F u → (ks.snoc x).ok ws F u
  | .nil, x, _, h => ⟨h, trivial⟩
  | .cons b k r, x, h, hx => ⟨h.1, snoc_ok r x h.2 hx⟩
theorem snoc_sm : ∀ (ks : Ks) (x : Kd), ks.sm → x.sm → (ks.snoc x).sm
  | .nil, x, _, h => ⟨h, trivial⟩
  | .cons b k r, x, h, hx => ⟨h.1, snoc_sm r x h.2 hx⟩
theorem snoc_dep : ∀ (ks : Ks) (x : Kd), (ks.snoc x).dep = max ks.dep x.dep
  | .nil, x => by show max x.dep 0 = max 0 x.dep; omega
  | .cons b k r, x => by show max k.dep (r.snoc x).dep = max (max k.dep r.dep) x.dep; rw [snoc_dep r x]; omega
mutual
/-- what a kind of core becomes -/
def Kd.tn : Kd → Kd
  | .int => .int
  | .free n => .free n
  | .var n => .var n
  | .un w k => .un w k.tn
  | .mn m ks => .mn m ks.tns
  | .to n ks l => .mn (.not n) (ks.tns.snoc (.mn (.not 0) (.cons .non l.tn .nil)))
def Ks.tns : Ks → Ks
  | .nil => .nil
  | .cons b k r => .cons b k.tn r.tns
end
@[simp] theorem tns_len : ∀ ks : Ks, ks.tns.len = ks.len
  | .nil => rfl
  | .cons _ _ r => by show r.tns.len + 1 = r.len + 1; rw [tns_len r]
theorem tns_tgs : ∀ ks : Ks, ks.tns.tgs = ks.tgs
  | .nil => rfl
  | .cons b k r => by show b :: r.tns.tgs = _; rw [tns_tgs r]; rfl
mutual
/-- turned behind replaced -/
theorem tn_tr (g : Leaf) : ∀ (k : Kd) (u : Nat), (k.tr g u).tn = k.tn.tr (fun u f n => (g u f n).tn) u
  | .int, u => rfl
  | .free n, u => rfl
  | .var n, u => rfl
  | .un w k, u => by simp only [Kd.tr, Kd.tn, tn_tr g k]
  | .mn m ks, u => by simp only [Kd.tr, Kd.tn, tns_tr g ks]
  | .to n ks l, u => by simp only [Kd.tr, Kd.tn, tns_tr g ks, tn_tr g l, snoc_tr, Ks.tr, Mn.bn, Nat.add_zero]
theorem tns_tr (g : Leaf) : ∀ (ks : Ks) (u : Nat), (ks.tr g u).tns = ks.tns.tr (fun u f n => (g u f n).tn) u
  | .nil, u => rfl
  | .cons b k r, u => by simp only [Ks.tr, Ks.tns, tn_tr g k, tns_tr g r]
end
theorem putG_tn (ss : List Kd) : (fun u f n => (putG ss u f n).tn) = putG (ss.map Kd.tn) := by
  funext u f n
  unfold putG
  cases f with
  | true => rfl
  | false =>
    (simp only [Bool.false_eq_true, if_false])
    split
    · rfl
    · rw [List.getElem?_map, List.length_map]
      cases ss[n - u]? <;> rfl
theorem fillG_tn (ss : List Kd) : (fun u f n => (fillG ss u f n).tn) = fillG (ss.map Kd.tn) := by
  funext u f n
  unfold fillG
  cases f with
  | false => rfl
  | true =>
    simp only [if_true, List.getD_eq_getElem?_getD, List.getElem?_map]
    cases ss[n]? <;> rfl
mutual
/-- rows are shorter still -/
def Kd.tw : Kd → Prop
  | .un _ k => k.tw
  | .mn _ ks => ks.len ≤ 900 ∧ ks.tw
  | .to _ ks l => ks.len ≤ 900 ∧ ks.tw ∧ l.tw
  | _ => True
def Ks.tw : Ks → Prop
  | .nil => True
  | .cons _ k r => k.tw ∧ r.tw
end
mutual
theorem tw_sm : ∀ k : Kd, k.tw → k.sm
  | .int, _ => trivial
  | .free _, _ => trivial
  | .var _, _ => trivial
  | .un w k, h => tw_sm k h
  | .mn m ks, h => ⟨Nat.le_trans h.1 (by omega), tws_sm ks h.2⟩
  | .to n ks l, h => ⟨Nat.le_trans h.1 (by omega), tws_sm ks h.2.1, tw_sm l h.2.2⟩
theorem tws_sm : ∀ k : Ks, k.tw → k.sm
  | .nil, _ => trivial
  | .cons b k r, h => ⟨tw_sm k h.1, tws_sm r h.2⟩
end
mutual
theorem tw_tn : ∀ k : Kd, k.tw → k.tn.sm
  | .int, _ => trivial
  | .free _, _ => trivial
  | .var _, _ => trivial
  | .un w k, h => tw_tn k h
  | .mn m ks, h => ⟨by rw [tns_len]; exact Nat.le_trans h.1 (by omega), tws_tn ks h.2⟩
  | .to n ks l, h => ⟨by rw [snoc_len, tns_len]; have := h.1; omega, snoc_sm _ _ (tws_tn ks h.2.1) ⟨by show 1 ≤ 1000; omega, tw_tn l h.2.2, trivial⟩⟩
theorem tws_tn : ∀ k : Ks, k.tw → k.tns.sm
  | .nil, _ => trivial
  | .cons b k r, h => ⟨tw_tn k h.1, tws_tn r h.2⟩
end
mutual
theorem tn_dep : ∀ k : Kd, k.tn.dep ≤ 2 * k.dep
  | .int => Nat.zero_le _
  | .free _ => Nat.zero_le _
  | .var _ => Nat.zero_le _
  | .un w k => by have := tn_dep k; simp only [Kd.tn, Kd.dep]; omega
  | .mn m ks => by have := tns_dep ks; simp only [Kd.tn, Kd.dep]; omega
  | .to n ks l => by have := tns_dep ks; have := tn_dep l; simp only [Kd.tn, Kd.dep, snoc_dep, Ks.dep]; omega
theorem tns_dep : ∀ k : Ks, k.tns.dep ≤ 2 * k.dep
  | .nil => Nat.zero_le _
  | .cons b k r => by have := tn_dep k; have := tns_dep r; simp only [Ks.tns, Ks.dep]; omega
end
theorem tn_hdV {k : Kd} (h : hdV k.d = false) : hdV k.tn.d = false := by
  cases k with
  | int => rfl
  | free n => simp [hdV, Kd.d] at h
  | var n => simp [hdV, Kd.d] at h
  | un w k => cases w <;> simp [hdV, Kd.d, Kd.tn]
  | mn m ks => cases m <;> simp [hdV, Kd.d, Kd.tn]
  | to n ks l => simp [hdV, Kd.d, Kd.tn]
theorem cw_tw {w : Str} (h : w ∈ CW) (h2 : w ≠ "to") : w ∈ TW := by
  simp [CW] at h
  rcases h with rfl | rfl | rfl | rfl | rfl | rfl | rfl <;> first | (simp [TW]; done) | exact absurd rfl h2
mutual
theorem tn_ok {F : Nat} : ∀ (k : Kd) {u : Nat}, k.ok CW F u → k.tn.ok TW F u
  | .int, u, h => by show Str.ofString "int" ∈ TW; simp [TW]
  | .free n, u, h => h
  | .var n, u, h => h
  | .un w k, u, h => ⟨by cases w <;> simp [TW], fun e => tn_hdV (h.2.1 e), tn_ok k h.2.2⟩
  | .mn m ks, u, h => by
    have h1 := h.1
    have h3 := h.2.2.1
    have ih := tns_ok ks h.2.2.2
    cases m with
    | row => exact ⟨by simp [TW], h.2.1, trivial, ih⟩
    | one => exact ⟨by simp [TW], h.2.1, by show 0 < ks.tns.len; rw [tns_len]; exact h3, ih⟩
    | room => simp [CW] at h1
    | not b => simp [CW] at h1
    | code b => simp [CW] at h1
  | .to n ks l, u, h => ⟨by simp [TW], h.2.1, trivial, snoc_ok _ _ (tns_ok ks h.2.2.1) ⟨by simp [TW], by show 0 ≤ 10000; omega, trivial, tn_ok l h.2.2.2, trivial⟩⟩
theorem tns_ok {F : Nat} : ∀ (ks : Ks) {u : Nat}, ks.ok CW F u → ks.tns.ok TW F u
  | .nil, u, _ => trivial
  | .cons b k r, u, h => ⟨tn_ok k h.1, tns_ok r h.2⟩
end
mutual
/-- no room, no code -/
def Kd.nr : Kd → Prop
  | .un _ k => k.nr
  | .mn .room _ => False
  | .mn (.code _) _ => False
  | .mn _ ks => ks.nr
  | .to _ ks l => ks.nr ∧ l.nr
  | _ => True
def Ks.nr : Ks → Prop
  | .nil => True
  | .cons _ k r => k.nr ∧ r.nr
end
mutual
theorem tr_nr {g : Leaf} (hg : ∀ v f n, (g v f n).nr) : ∀ (k : Kd) (u : Nat), k.nr → (k.tr g u).nr
  | .int, u, _ => trivial
  | .free n, u, _ => hg u true n
  | .var n, u, _ => hg u false n
  | .un w k, u, h => tr_nr hg k _ h
  | .mn m ks, u, h => by
    cases m with
    | room => exact h.elim
    | code b => exact h.elim
    | row => exact trs_nr hg ks _ h
    | one => exact trs_nr hg ks _ h
    | not b => exact trs_nr hg ks _ h
  | .to n ks l, u, h => ⟨trs_nr hg ks _ h.1, tr_nr hg l _ h.2⟩
theorem trs_nr {g : Leaf} (hg : ∀ v f n, (g v f n).nr) : ∀ (ks : Ks) (u : Nat), ks.nr → (ks.tr g u).nr
  | .nil, u, _ => trivial
  | .cons b k r, u, h => ⟨tr_nr hg k u h.1, trs_nr hg r u h.2⟩
end
mutual
theorem ok_nr {ws : List Str} {F : Nat} (h1 : Str.ofString "room" ∉ ws) (h2 : Str.ofString "code" ∉ ws) : ∀ (k : Kd) {u : Nat}, k.ok ws F u → k.nr
  | .int, _, _ => trivial
  | .free _, _, _ => trivial
  | .var _, _, _ => trivial
  | .un w k, _, h => ok_nr h1 h2 k h.2.2
  | .mn m ks, u, h => by
    have e := h.1
    cases m with
    | room => exact h1 e
    | code b => exact h2 e
    | row => exact oks_nr h1 h2 ks h.2.2.2
    | one => exact oks_nr h1 h2 ks h.2.2.2
    | not b => exact oks_nr h1 h2 ks h.2.2.2
  | .to n ks l, _, h => ⟨oks_nr h1 h2 ks h.2.2.1, ok_nr h1 h2 l h.2.2.2⟩
theorem oks_nr {ws : List Str} {F : Nat} (h1 : Str.ofString "room" ∉ ws) (h2 : Str.ofString "code" ∉ ws) : ∀ (ks : Ks) {u : Nat}, ks.ok ws F u → ks.nr
  | .nil, _, _ => trivial
  | .cons b k r, _, h => ⟨ok_nr h1 h2 k h.1, oks_nr h1 h2 r h.2⟩
end
theorem cw_nr {F u : Nat} {k : Kd} (h : k.ok CW F u) : k.nr := ok_nr (by simp [CW]) (by simp [CW]) k h
theorem tw_nr {F u : Nat} {k : Kd} (h : k.ok TW F u) : k.nr := ok_nr (by simp [TW]) (by simp [TW]) k h
/-- shut, then opened with the same free ones: as before -/
theorem shut_open {F : Nat} (k : Kd) (o : List Nat) (hw : k.wk F 0) : (k.tr (shutG o) 0).tr (putG (o.map Kd.free)) 0 = k := by
  rw [tr_tr]
  refine tr_stay (F := F) k 0 hw fun v _ => ⟨fun n hn => ?_, fun n hn => ?_⟩
  · by_cases hm : n ∈ o
    · have hi : o.idxOf n < o.length := List.idxOf_lt_length_iff.mpr hm
      have h1 : ¬ v + o.idxOf n < v := by omega
      have h2 : v + o.idxOf n - v = o.idxOf n := by omega
      have h3 : (o.map Kd.free)[o.idxOf n]? = some (.free n) := by
        rw [List.getElem?_map, List.getElem?_eq_getElem hi, List.getElem_idxOf]; rfl
      simp [shutG, hm, Kd.tr, putG, h1, h2, h3]
    · simp [shutG, hm, Kd.tr, putG]
  · simp [shutG, hn, Kd.tr, putG]
/-! unlike kinds stay unlike -/
mutual
theorem tn_inj {F F' : Nat} : ∀ (a b : Kd) {u u' : Nat}, a.ok CW F u → b.ok CW F' u' → a.tn.d = b.tn.d → a.d = b.d
  | .int, b, u, u', _, hb, e => by
    cases b with
    | un w k => cases w <;> simp [Kd.tn, Kd.d] at e
    | mn m ks => cases m <;> simp [Kd.tn, Kd.d] at e
    | _ => first | rfl | simp [Kd.tn, Kd.d] at e
  | .free n, b, u, u', _, hb, e => by
    cases b with
    | un w k => cases w <;> simp [Kd.tn, Kd.d] at e
    | mn m ks => cases m <;> simp [Kd.tn, Kd.d] at e
    | free m => exact e
    | _ => simp [Kd.tn, Kd.d] at e
  | .var n, b, u, u', _, hb, e => by
    cases b with
    | un w k => cases w <;> simp [Kd.tn, Kd.d] at e
    | mn m ks => cases m <;> simp [Kd.tn, Kd.d] at e
    | var m => exact e
    | _ => simp [Kd.tn, Kd.d] at e
  | .un w k, b, u, u', ha, hb, e => by
    cases b with
    | un w' k' =>
      have ih := tn_inj k k' ha.2.2 hb.2.2
      cases w <;> cases w' <;> simp [Kd.tn, Kd.d] at e ⊢ <;> exact ih e
    | mn m ks => cases w <;> cases m <;> simp [Kd.tn, Kd.d] at e
    | _ => cases w <;> simp [Kd.tn, Kd.d] at e
  | .mn m ks, b, u, u', ha, hb, e => by
    have h1 := ha.1
    cases b with
    | un w k => cases w <;> cases m <;> simp [Kd.tn, Kd.d] at e
    | mn m' ks' =>
      have h2 := hb.1
      have ih := tns_inj ks ks' ha.2.2.2 hb.2.2.2
      cases m <;> first | (simp [CW] at h1; done) | skip
      all_goals cases m' <;> first | (simp [CW] at h2; done) | skip
      all_goals simp [Kd.tn, Kd.d] at e ⊢
      all_goals exact ih e
    | to n ks' l => cases m <;> first | (simp [CW] at h1; done) | (simp [Kd.tn, Kd.d] at e)
    | _ => cases m <;> simp [Kd.tn, Kd.d] at e
  | .to n ks l, b, u, u', ha, hb, e => by
    cases b with
    | un w k => cases w <;> simp [Kd.tn, Kd.d] at e
    | mn m ks => have h2 := hb.1; cases m <;> first | (simp [CW] at h2; done) | (simp [Kd.tn, Kd.d] at e)
    | to n' ks' l' =>
      have ih := tns_inj ks ks' ha.2.2.1 hb.2.2.1
      have il := tn_inj l l' ha.2.2.2 hb.2.2.2
      simp only [Kd.tn, Kd.d, snoc_ds] at e ⊢
      have e := (D.tup.inj e)
      simp only [List.cons.injEq, D.int.injEq, D.tup.injEq, true_and, and_true] at e
      obtain ⟨e1, e2⟩ := e
      have e3 := List.append_inj' e2 rfl
      have e4 := e3.2
      simp only [Ks.ds, List.cons.injEq, D.tup.injEq, true_and, and_true] at e4
      rw [ih e3.1, il e4, e1]
    | _ => simp [Kd.tn, Kd.d] at e
theorem tns_inj {F F' : Nat} : ∀ (a b : Ks) {u u' : Nat}, a.ok CW F u → b.ok CW F' u' → a.tns.ds = b.tns.ds → a.ds = b.ds
  | .nil, .nil, _, _, _, _, _ => rfl
  | .nil, .cons _ _ _, _, _, _, _, e => by cases e
  | .cons _ _ _, .nil, _, _, _, _, e => by cases e
  | .cons _ k r, .cons _ k' r', u, u', ha, hb, e => by
    have e : k.tn.d :: r.tns.ds = k'.tn.d :: r'.tns.ds := e
    have e1 := tn_inj k k' ha.1 hb.1 (List.cons.inj e).1
    have e2 := tns_inj r r' ha.2 hb.2 (List.cons.inj e).2
    show k.d :: r.ds = k'.d :: r'.ds
    rw [e1, e2]
end
mutual
theorem tn_fun {F F' : Nat} : ∀ (a b : Kd) {u u' : Nat}, a.ok CW F u → b.ok CW F' u' → a.d = b.d → a.tn.d = b.tn.d
  | .int, b, u, u', _, hb, e => by
    cases b with
    | un w k => cases w <;> simp [Kd.d] at e
    | mn m ks => cases m <;> simp [Kd.d] at e
    | _ => first | rfl | simp [Kd.d] at e
  | .free n, b, u, u', _, hb, e => by
    cases b with
    | un w k => cases w <;> simp [Kd.d] at e
    | mn m ks => cases m <;> simp [Kd.d] at e
    | free m => exact e
    | _ => simp [Kd.d] at e
  | .var n, b, u, u', _, hb, e => by
    cases b with
    | un w k => cases w <;> simp [Kd.d] at e
    | mn m ks => cases m <;> simp [Kd.d] at e
    | var m => exact e
    | _ => simp [Kd.d] at e
  | .un w k, b, u, u', ha, hb, e => by
    cases b with
    | un w' k' =>
      have ih := tn_fun k k' ha.2.2 hb.2.2
      cases w <;> cases w' <;> simp [Kd.tn, Kd.d] at e ⊢ <;> exact ih e
    | mn m ks => cases w <;> cases m <;> simp [Kd.d] at e
    | _ => cases w <;> simp [Kd.d] at e
  | .mn m ks, b, u, u', ha, hb, e => by
    have h1 := ha.1
    cases b with
    | un w k => cases w <;> cases m <;> simp [Kd.d] at e
    | mn m' ks' =>
      have h2 := hb.1
      have ih := tns_fun ks ks' ha.2.2.2 hb.2.2.2
      cases m <;> first | (simp [CW] at h1; done) | skip
      all_goals cases m' <;> first | (simp [CW] at h2; done) | skip
      all_goals simp [Kd.tn, Kd.d] at e ⊢
      all_goals exact ih e
    | to n ks' l => cases m <;> first | (simp [CW] at h1; done) | (simp [Kd.d] at e)
    | _ => cases m <;> simp [Kd.d] at e
  | .to n ks l, b, u, u', ha, hb, e => by
    cases b with
    | un w k => cases w <;> simp [Kd.d] at e
    | mn m ks => cases m <;> simp [Kd.d] at e
    | to n' ks' l' =>
      have ih := tns_fun ks ks' ha.2.2.1 hb.2.2.1
      have il := tn_fun l l' ha.2.2.2 hb.2.2.2
      simp only [Kd.tn, Kd.d, snoc_ds] at e ⊢
      have e := (D.tup.inj e)
      simp only [List.cons.injEq, D.int.injEq, D.tup.injEq, true_and, and_true] at e
      obtain ⟨e1, e2, e3⟩ := e
      simp only [Ks.ds, e1, ih e2, il e3]
    | _ => simp [Kd.d] at e
theorem tns_fun {F F' : Nat} : ∀ (a b : Ks) {u u' : Nat}, a.ok CW F u → b.ok CW F' u' → a.ds = b.ds → a.tns.ds = b.tns.ds
  | .nil, .nil, _, _, _, _, _ => rfl
  | .nil, .cons _ _ _, _, _, _, _, e => by cases e
  | .cons _ _ _, .nil, _, _, _, _, e => by cases e
  | .cons _ k r, .cons _ k' r', u, u', ha, hb, e => by
    have e : k.d :: r.ds = k'.d :: r'.ds := e
    have e1 := tn_fun k k' ha.1 hb.1 (List.cons.inj e).1
    have e2 := tns_fun r r' ha.2 hb.2 (List.cons.inj e).2
    show k.tn.d :: r.tns.ds = k'.tn.d :: r'.tns.ds
    rw [e1, e2]
end
/-! == of kinds without tags -/
mutual
def nb : D → Bool
  | .int _ => true
  | .str _ => true
  | .tup xs => nbs xs
  | _ => false
def nbs : List D → Bool
  | [] => true
  | x :: xs => nb x && nbs xs
end
mutual
theorem eqv_nb : ∀ a b : D, nb a = true → nb b = true → (a.eqv b = true ↔ a = b)
  | .int i, b, _, hb => by cases b <;> first | (simp [D.eqv]; done) | cases hb
  | .str i, b, _, hb => by cases b <;> first | (simp [D.eqv]; done) | cases hb
  | .tup xs, b, ha, hb => by
    cases b with
    | tup ys =>
      have := eqvs_nb xs ys ha hb
      simp only [D.eqv, D.tup.injEq]; exact this
    | int i => simp [D.eqv]
    | str i => simp [D.eqv]
    | _ => cases hb
  | .non, _, h, _ => by cases h
  | .bl _, _, h, _ => by cases h
  | .lst _, _, h, _ => by cases h
  | .ref _, _, h, _ => by cases h
  | .fz _, _, h, _ => by cases h
  | .ftup _, _, h, _ => by cases h
theorem eqvs_nb : ∀ a b : List D, nbs a = true → nbs b = true → (D.eqvs a b = true ↔ a = b)
  | [], [], _, _ => by simp [D.eqvs]
  | [], _ :: _, _, _ => by simp [D.eqvs]
  | _ :: _, [], _, _ => by simp [D.eqvs]
  | x :: xs, y :: ys, ha, hb => by
    simp only [nbs, Bool.and_eq_true] at ha hb
    have h1 := eqv_nb x y ha.1 hb.1
    have h2 := eqvs_nb xs ys ha.2 hb.2
    simp only [D.eqvs, Bool.and_eq_true, List.cons.injEq, h1, h2]
end
theorem nbs_app : ∀ xs ys : List D, nbs (xs ++ ys) = (nbs xs && nbs ys)
  | [], ys => by simp [nbs]
  | x :: xs, ys => by show (nb x && nbs (xs ++ ys)) = _; rw [nbs_app xs ys]; simp [nbs, Bool.and_assoc]
mutual
theorem nr_nb : ∀ k : Kd, k.nr → nb k.d = true
  | .int, _ => by simp [Kd.d, nb, nbs]
  | .free _, _ => by simp [Kd.d, nb, nbs]
  | .var _, _ => by simp [Kd.d, nb, nbs]
  | .un w k, h => by have := nr_nb k h; cases w <;> simp [Kd.d, nb, nbs, this]
  | .mn m ks, h => by
    cases m with
    | room => exact h.elim
    | code b => exact h.elim
    | row => have := nrs_nb ks h; simp [Kd.d, nb, nbs, this]
    | one => have := nrs_nb ks h; simp [Kd.d, nb, nbs, this]
    | not b => have := nrs_nb ks h; simp [Kd.d, nb, nbs, this]
  | .to n ks l, h => by have := nrs_nb ks h.1; have := nr_nb l h.2; simp [Kd.d, nb, nbs, *]
theorem nrs_nb : ∀ k : Ks, k.nr → nbs k.ds = true
  | .nil, _ => rfl
  | .cons b k r, h => by show (nb k.d && nbs r.ds) = true; rw [nr_nb k h.1, nrs_nb r h.2]; rfl
end
theorem tn_eqv {F F' u u' : Nat} {a b : Kd} (ha : a.ok CW F u) (hb : b.ok CW F' u') : a.tn.d.eqv b.tn.d = a.d.eqv b.d := by
  rw [Bool.eq_iff_iff, eqv_nb _ _ (nr_nb _ (tw_nr (tn_ok a ha))) (nr_nb _ (tw_nr (tn_ok b hb))), eqv_nb _ _ (nr_nb _ (cw_nr ha)) (nr_nb _ (cw_nr hb))]
  exact ⟨tn_inj a b ha hb, tn_fun a b ha hb⟩
/-- a good kind of core -/
structure Ck (f u dp : Nat) (k : Kd) : Prop where
  ok : k.ok CW f u
  tw : k.tw
  dep : k.dep ≤ dp
structure Cks (f u dp : Nat) (k : Ks) : Prop where
  ok : k.ok CW f u
  tw : k.tw
  dep : k.dep ≤ dp
theorem of_ck {f u dp : Nat} : ∀ {ks : List Kd}, (∀ k ∈ ks, Ck f u dp k) → Cks f u dp (Ks.of ks)
  | [], _ => ⟨trivial, trivial, Nat.zero_le _⟩
  | k :: r, h => by
    have h1 := h k List.mem_cons_self
    have h2 := of_ck fun c hc => h c (List.mem_cons_of_mem _ hc)
    exact ⟨⟨h1.ok, h2.ok⟩, ⟨h1.tw, h2.tw⟩, Nat.max_le.mpr ⟨h1.dep, h2.dep⟩⟩
theorem Ck.sm {f u dp : Nat} {k : Kd} (c : Ck f u dp k) : k.sm := tw_sm k c.tw
theorem Ck.mono {f u dp f' u' dp' : Nat} {k : Kd} (c : Ck f u dp k) (h1 : f ≤ f') (h2 : u ≤ u') (h3 : dp ≤ dp') : Ck f' u' dp' k := ⟨ok_le k c.ok h1 h2, c.tw, Nat.le_trans c.dep h3⟩
theorem Ck.tn {f u dp : Nat} {k : Kd} (c : Ck f u dp k) : Gd TW f u (2 * dp) k.tn := ⟨tn_ok k c.ok, tw_tn k c.tw, Nat.le_trans (tn_dep k) (by have := c.dep; omega)⟩
end Kn
end

section
/-! KdU: good kinds of core, opened and filled. No program in sight. -/
set_option maxRecDepth 100000
namespace Kn
open PySem PV
mutual
theorem tr_tw {g : Leaf} (h : ∀ v f n, (g v f n).tw) : ∀ (k : Kd) (u : Nat), k.tw → (k.tr g u).tw
  | .int, u, _ => trivial
  | .free n, u, _ => h u true n
  | .var n, u, _ => h u false n
  | .un w k, u, hs => tr_tw h k (u + w.bn) hs
  | .mn m ks, u, hs => ⟨by rw [tr_len]; exact hs.1, trs_tw h ks (u + m.bn) hs.2⟩
  | .to n ks l, u, hs => ⟨by rw [tr_len]; exact hs.1, trs_tw h ks (u + n) hs.2.1, tr_tw h l (u + n) hs.2.2⟩
theorem trs_tw {g : Leaf} (h : ∀ v f n, (g v f n).tw) : ∀ (ks : Ks) (u : Nat), ks.tw → (ks.tr g u).tw
  | .nil, u, _ => trivial
  | .cons b k r, u, hs => ⟨tr_tw h k u hs.1, trs_tw h r u hs.2⟩
end
theorem putG_tw {ss : List Kd} (h : ∀ k ∈ ss, k.tw) (v : Nat) (f : Bool) (n : Nat) : (putG ss v f n).tw := by
  unfold putG
  split
  · trivial
  · split
    · trivial
    · cases e : ss[n - v]? with
      | none => trivial
      | some k => exact h k (List.mem_of_getElem? e)
theorem Ck.opn {F dp N : Nat} {ss : List Kd} {k : Kd} (c : Ck F ss.length dp k) (h : ∀ s ∈ ss, Ck F 0 N s) : Ck F 0 (dp + N) (k.tr (putG ss) 0) := by
  refine ⟨?_, tr_tw (putG_tw fun s hs => (h s hs).tw) k 0 c.tw, Nat.le_trans (tr_dep (putG_dep fun s hs => (h s hs).dep) k 0) (by have := c.dep; omega)⟩
  exact tr_ok (F := F) (s := ss.length) (t := 0) k 0 (by rw [Nat.zero_add]; exact c.ok) fun v _ => putG_ok (fun s hs => (h s hs).ok) v
theorem fillG_tw {ss : List Kd} (h : ∀ k ∈ ss, k.tw) (v : Nat) (f : Bool) (n : Nat) : (fillG ss v f n).tw := by
  unfold fillG
  split
  · rw [List.getD_eq_getElem?_getD]
    cases e : ss[n]? with
    | none => trivial
    | some k => exact h k (List.mem_of_getElem? e)
  · trivial
theorem fillG_dep {ss : List Kd} {N : Nat} (h : ∀ k ∈ ss, k.dep ≤ N) (v : Nat) (f : Bool) (n : Nat) : (fillG ss v f n).dep ≤ N := by
  unfold fillG
  split
  · rw [List.getD_eq_getElem?_getD]
    cases e : ss[n]? with
    | none => exact Nat.zero_le _
    | some k => exact h k (List.mem_of_getElem? e)
  · exact Nat.zero_le _
theorem Ck.fil {F dp N : Nat} {ss : List Kd} {k : Kd} (c : Ck ss.length 0 dp k) (h : ∀ s ∈ ss, Ck F 0 N s) : Ck F 0 (dp + N) (k.tr (fillG ss) 0) := by
  refine ⟨?_, tr_tw (fillG_tw fun s hs => (h s hs).tw) k 0 c.tw, Nat.le_trans (tr_dep (fillG_dep fun s hs => (h s hs).dep) k 0) (by have := c.dep; omega)⟩
  refine tr_ok (F := ss.length) (s := 0) (t := 0) k 0 c.ok fun v _ => ⟨fun n hn => ?_, fun n hn => hn⟩
  have e : fillG ss v true n = ss[n] := by simp [fillG, hn]
  rw [e]
  exact ok_le _ (h _ (List.getElem_mem hn)).ok (Nat.le_refl _) (Nat.zero_le _)
end Kn
end

section
set_option maxRecDepth 100000
namespace K22
open PySem PV Kn
@[simp] theorem turn_v {F : Fns} {G : List D} {i : Nat} {c e : E} {ρ : PV.Env} {x : D} {h : Hh} : lcTurn (.v i) (evE F G c) (evE F G e) ρ x h = ((evE F G c).t (ρ.set i (some x)) h).bnd (fun ok h3 => if ok then ((evE F G e).v (ρ.set i (some x)) h3).bnd (fun y h4 => .ok (some y) h4) ⟨⟩ else .ok none h3) ⟨⟩ := id rfl
@[simp] theorem turn_tu {F : Fns} {G : List D} {i j : Nat} {c e : E} {ρ : PV.Env} {x y : D} {h : Hh} : lcTurn (.tu [i, j]) (evE F G c) (evE F G e) ρ (.tup [x, y]) h = ((evE F G c).t ((ρ.set i (some x)).set j (some y)) h).bnd (fun ok h3 => if ok then ((evE F G e).v ((ρ.set i (some x)).set j (some y)) h3).bnd (fun y h4 => .ok (some y) h4) ⟨⟩ else .ok none h3) ⟨⟩ := id rfl
section
variable {k : Nat} {h : Hh} {r0 r1 r2 r3 r4 : Option D}
theorem ins_fs : ∀ ks : Ks, A2 (fun x y => lcTurn (.tu [2, 3]) (evE (F k) G c_insides_0) (evE (F k) G x_insides_0) [r0, r1, r2, r3, r4] x h = .ok (some y) h) ks.fs ks.ds
  | .nil => .nil
  | .cons b kd r => .cons (by simp) (ins_fs r)
theorem ins_gs : ∀ ks : Ks, A2 (fun x y => lcTurn (.tu [4, 2]) (evE (F k) G c_insides_1) (evE (F k) G x_insides_1) [r0, r1, r2, r3, r4] x h = .ok (some y) h) ks.gs ks.ds
  | .nil => .nil
  | .cons b kd r => .cons (by simp) (ins_gs r)
end
theorem insides_ok (k : Nat) (h : Hh) (d : Kd) (hs : d.sm) : C (k + 1) n_insides [d.d] h = .ok (.tup d.ins) h := by
  cases d with
  | un w d => cases w <;> simp [C_insides, Kd.d, Kd.ins]
  | int => simp [C_insides, Kd.d, Kd.ins]
  | free n => simp [C_insides, Kd.d, Kd.ins]
  | var n => simp [C_insides, Kd.d, Kd.ins]
  | to n ks l =>
    have hz : ks.len ≤ 16777215 := by have := hs.1; omega
    simp [C_insides, Kd.d, Kd.ins, hz]
  | mn m ks =>
    have hz : ks.len ≤ 16777216 := by have := hs.1; omega
    cases m <;> simp [C_insides, Kd.d, Kd.ins, hz, lcA (ins_fs ks), lcA (ins_gs ks)]
theorem binds_ok (k : Nat) (h : Hh) (d : Kd) : C (k + 1) n_binds [d.d] h = .ok (.int d.bn) h := by
  cases d with
  | un w d => cases w <;> simp [C_binds, Kd.d, Kd.bn]
  | mn m ks => cases m <;> simp [C_binds, Kd.d, Kd.bn]
  | _ => simp [C_binds, Kd.d, Kd.bn]
/-! ### with_insides -/
section
variable {k : Nat} {h : Hh} {r0 r1 r2 r3 r4 : Option D} {g : Leaf} {u : Nat}
theorem with_fs : ∀ ks : Ks, A2 (fun x y => lcTurn (.tu [3, 4]) (evE (F k) G c_with_insides_0) (evE (F k) G x_with_insides_0) [r0, r1, r2, r3, r4] x h = .ok (some y) h) (zipD (ks.tr g u).ds ks.fs) (ks.tr g u).fs
  | .nil => .nil
  | .cons b kd r => .cons (by simp) (with_fs r)
theorem with_gs : ∀ ks : Ks, A2 (fun x y => lcTurn (.tu [3, 4]) (evE (F k) G c_with_insides_1) (evE (F k) G x_with_insides_1) [r0, r1, r2, r3, r4] x h = .ok (some y) h) (zipD (ks.tr g u).ds ks.gs) (ks.tr g u).gs
  | .nil => .nil
  | .cons b kd r => .cons (by simp) (with_gs r)
end
theorem zipD_len (xs ys : List D) : (zipD xs ys).length = min xs.length ys.length := by simp [zipD]
theorem with_inn (k : Nat) (h : Hh) (g : Leaf) (u : Nat) (d : Kd) (hs : d.sm) (hl : d.leaf = false) : C (k + 1) n_with_insides [d.d, .tup (d.ini g u)] h = .ok (d.inn g u).d h := by
  cases d with
  | un w d => cases w <;> simp [C_with_insides, Kd.d, Kd.ini, Kd.inn]
  | to n ks l =>
    have hz : ks.len ≤ 16777215 := by have := hs.1; omega
    simp [C_with_insides, Kd.d, Kd.ini, Kd.inn, hz]
  | mn m ks =>
    have hz : ks.len ≤ 16777216 := by have := hs.1; omega
    cases m <;> simp [C_with_insides, Kd.d, Kd.ini, Kd.inn, zipD_len, hz, lcA (with_fs ks), lcA (with_gs ks)]
  | _ => cases hl
theorem with_ok (k : Nat) (h : Hh) (g : Leaf) (u : Nat) (d : Kd) (hs : d.sm) (hl : d.leaf = false) : C (k + 1) n_with_insides [d.d, .tup (d.tri g u)] h = .ok (d.tr g u).d h := by
  rw [tri_ini, tr_inn g u hl]; exact with_inn k h g _ d hs hl
theorem with_leaf (k : Nat) (h : Hh) (d : Kd) (hl : d.leaf = true) : C (k + 1) n_with_insides [d.d, .tup []] h = .ok d.d h := by
  cases d <;> simp [Kd.leaf] at hl <;> simp [C_with_insides, Kd.d]
/-! ### the replacings -/
theorem ins_len (d : Kd) (hs : d.sm) : d.ins.length ≤ 1001 := by
  cases d <;> simp [Kd.ins]
  · exact Nat.le_trans hs.1 (by omega)
  · exact hs.1
def kds (ss : List Kd) : List D := ss.map Kd.d
@[simp] theorem kds_len (ss : List Kd) : (kds ss).length = ss.length := List.length_map ..
theorem kds_at {ss : List Kd} {n : Nat} (hn : n < ss.length) : L2.atI (kds ss) (n : Int) = some (ss[n].d) := L2.atI_nat (by simp [kds, List.getElem?_eq_getElem hn])
def Kd.nm : Kd → Str
  | .int => "int" | .free _ => "free" | .var _ => "var" | .un w _ => w.nm | .mn m _ => m.nm | .to _ _ _ => "to"
theorem idx0 (h : Hh) (d : Kd) : opIdx h d.d (.int 0) = some (.str (Kd.nm d)) := by
  cases d with
  | un w d => cases w <;> simp [Kd.d, Kd.nm]
  | mn m ks => cases m <;> simp [Kd.d, Kd.nm]
  | _ => simp [Kd.d, Kd.nm]
theorem nm_var {d : Kd} (hl : d.leaf = false) : (Kd.nm d = Str.ofString "var") = False := by
  cases d with
  | un w d => cases w <;> simp [Kd.nm]
  | mn m ks => cases m <;> simp [Kd.nm]
  | to n ks l => simp [Kd.nm]
  | _ => cases hl
theorem nm_free {d : Kd} (hl : d.leaf = false) : (Kd.nm d = Str.ofString "free") = False := by
  cases d with
  | un w d => cases w <;> simp [Kd.nm]
  | mn m ks => cases m <;> simp [Kd.nm]
  | to n ks l => simp [Kd.nm]
  | _ => cases hl
section
variable {h : Hh} {ss : List Kd} {u m : Nat} {d : Kd}
theorem put_turns {xs ys : List D} {r0 r3 : Option D} {mo : Int} (hb : A2 (fun x y => C (m + 1) n_put_below [x, .int mo, .tup (kds ss)] h = .ok y h) xs ys) :
    A2 (fun x y => lcTurn (.v 5) (evE (F (m + 1)) G c_put_below_0) (evE (F (m + 1)) G x_put_below_0) [r0, some (.int u), some (.tup (kds ss)), r3, some (.int mo), none] x h = .ok (some y) h) xs ys :=
  hb.imp fun x y p => by simp [p]
theorem put_step (hs : d.sm) (hl : d.leaf = false) (hb : A2 (fun x y => C (m + 1) n_put_below [x, .int (u + d.bn : Nat), .tup (kds ss)] h = .ok y h) d.ins (d.tri (putG ss) u)) :
    C (m + 2) n_put_below [d.d, .int u, .tup (kds ss)] h = .ok (d.tr (putG ss) u).d h := by
  have hz : d.ins.length ≤ 16777216 := by have := ins_len d hs; omega
  have hb' := put_turns (u := u) (r0 := some d.d) (r3 := none) hb
  simp only [Int.natCast_add] at hb'
  simp [C_put_below, idx0, nm_var hl, binds_ok, insides_ok m h d hs, hz, lcA hb', with_ok m h (putG ss) u d hs hl]
end
end K22
end

section
set_option maxRecDepth 100000
namespace K22
open PySem PV Kn
theorem sub_nat {v u : Nat} (h : u ≤ v) : (v : Int) - (u : Int) = ((v - u : Nat) : Int) := (Int.ofNat_sub h).symm
section
variable {h : Hh} {ss : List Kd} {o : List Nat}
theorem put_var (m v u : Nat) : C (m + 1) n_put_below [(Kd.var v).d, .int u, .tup (kds ss)] h = .ok (putG ss u false v).d h := by
  unfold putG
  by_cases hu : v < u
  · have e : (v : Int) - (u : Int) < 0 := by omega
    simp [C_put_below, Kd.d, e, hu]
  · have e : ¬ (v : Int) - (u : Int) < 0 := by omega
    by_cases hc : v - u < ss.length
    · have e2 : (v : Int) - (u : Int) < (ss.length : Int) := by omega
      have e3 := kds_at hc
      rw [← sub_nat (by omega)] at e3
      simp [C_put_below, Kd.d, e, hu, e2, e3, hc]
    · have e2 : ¬ (v : Int) - (u : Int) < (ss.length : Int) := by omega
      have e3 : (v : Int) - (ss.length : Int) = ((v - ss.length : Nat) : Int) := sub_nat (by omega)
      have e4 : ss[v - u]? = none := List.getElem?_eq_none (by omega)
      simp [C_put_below, Kd.d, e, hu, e2, e4, e3]
mutual
theorem put_ok : ∀ (d : Kd) (u n : Nat), d.sm → d.dep ≤ n → C (n + 3) n_put_below [d.d, .int u, .tup (kds ss)] h = .ok (d.tr (putG ss) u).d h
  | .int, u, n, _, _ => by simp [C_put_below, C_binds, C_insides, C_with_insides, Kd.d, Kd.tr, lcLoop]
  | .free v, u, n, _, _ => by simp [C_put_below, C_binds, C_insides, C_with_insides, Kd.d, Kd.tr, lcLoop, putG]
  | .var v, u, n, _, _ => put_var (n + 2) v u
  | .un w d, u, n + 1, hs, hd => put_step (m := n + 2) hs rfl (.cons (put_ok d (u + w.bn) n hs (by simp [Kd.dep] at hd; omega)) .nil)
  | .mn m ks, u, n + 1, hs, hd => put_step (m := n + 2) hs rfl (puts_ok ks (u + m.bn) n hs.2 (by simp [Kd.dep] at hd; omega))
  | .to b ks l, u, n + 1, hs, hd => put_step (m := n + 2) hs rfl ((puts_ok ks (u + b) n hs.2.1 (by simp [Kd.dep] at hd; omega)).app (.cons (put_ok l (u + b) n hs.2.2 (by simp [Kd.dep] at hd; omega)) .nil))
  | .un _ _, _, 0, _, hd => by simp [Kd.dep] at hd
  | .mn _ _, _, 0, _, hd => by simp [Kd.dep] at hd
  | .to _ _ _, _, 0, _, hd => by simp [Kd.dep] at hd
theorem puts_ok : ∀ (ks : Ks) (u n : Nat), ks.sm → ks.dep ≤ n → A2 (fun x y => C (n + 3) n_put_below [x, .int u, .tup (kds ss)] h = .ok y h) ks.ds (ks.tr (putG ss) u).ds
  | .nil, u, n, _, _ => .nil
  | .cons b k r, u, n, hs, hd => .cons (put_ok k u n hs.1 (by simp [Ks.dep] at hd; omega)) (puts_ok r u n hs.2 (by simp [Ks.dep] at hd; omega))
end
/-! shut -/
def nds (o : List Nat) : List D := o.map fun n : Nat => .int (n : Int)
@[simp] theorem nds_len (o : List Nat) : (nds o).length = o.length := List.length_map ..
theorem ints_nds : ∀ o : List Nat, D.ints (nds o) = some (o.map fun n : Nat => (n : Int))
  | [] => rfl
  | n :: o => by show (D.ints (nds o)).map _ = _; rw [ints_nds o]; rfl
theorem nds_flat (o : List Nat) : (nds o).all D.flat = true := by simp [nds]
theorem nds_any (o : List Nat) (n : Nat) : ((nds o).any fun y => y.eqv (.int (n : Int))) = decide (n ∈ o) := by
  induction o with
  | nil => rfl
  | cons a o ih =>
    show ((a : Int) == (n : Int) || (nds o).any _) = _
    rw [ih]
    by_cases e : a = n
    · subst e; simp
    · have : ((a : Int) == (n : Int)) = false := beq_eq_false_iff_ne.mpr (by omega)
      have e' : ¬ n = a := fun q => e q.symm
      rw [this]; simp [e']
theorem in_nds (o : List Nat) (n : Nat) : opCmp .inn h (.int (n : Int)) (.ftup (nds o)) = some (decide (n ∈ o)) := by
  show (if (D.int (n : Int)).shp && (D.tup (nds o)).shp then some ((nds o).any fun y => y.eqv (.int (n : Int))) else none) = _
  rw [shp_flats (nds_flat o), nds_any]; rfl
theorem idxOf_cast (n : Nat) : ∀ o : List Nat, (o.map fun n : Nat => (n : Int)).idxOf (n : Int) = o.idxOf n
  | [] => rfl
  | a :: o => by
    rw [List.map_cons, List.idxOf_cons, List.idxOf_cons, idxOf_cast n o]
    by_cases e : a = n
    · subst e; simp
    · have : ((a : Int) == (n : Int)) = false := beq_eq_false_iff_ne.mpr (by omega)
      have e2 : (a == n) = false := by simpa using e
      rw [this, e2]
theorem idx_nds {o : List Nat} {n : Nat} (hn : n ∈ o) : idxD (nds o) [.int (n : Int)] = some (.int (o.idxOf n : Nat)) := by
  show (D.ints (nds o)).bind (fun ns => if (n : Int) ∈ ns then some (D.int (ns.idxOf (n : Int) : Nat)) else none) = _
  have hm : (n : Int) ∈ o.map fun n : Nat => (n : Int) := List.mem_map.mpr ⟨n, hn, rfl⟩
  rw [ints_nds, Option.bind_some, if_pos hm, idxOf_cast]
@[simp] theorem ixs_ft (xs : List D) : (D.ftup xs).ixs = some xs := rfl
@[simp] theorem ixs_lst (xs : List D) : (D.lst xs).ixs = some xs := rfl
@[simp] theorem lenF (xs : List D) : opBf .len h [.ftup xs] = some (.int xs.length) := rfl
theorem shut_leaf (m v u : Nat) (f : Bool) : C (m + 1) n_shut_below [(if f then Kd.free v else Kd.var v).d, .int u, .ftup (nds o)] h = .ok (shutG o u f v).d h := by
  cases f with
  | true =>
    by_cases hv : v ∈ o
    · simp [C_shut_below, Kd.d, in_nds, hv, idx_nds, shutG]
    · simp [C_shut_below, Kd.d, in_nds, hv, shutG]
  | false =>
    by_cases hu : v < u
    · simp [C_shut_below, Kd.d, hu, shutG]
    · simp [C_shut_below, Kd.d, hu, shutG]
theorem shut_turns {xs ys : List D} {r0 : Option D} {mo : Int} {u m : Nat} (hb : A2 (fun x y => C (m + 1) n_shut_below [x, .int mo, .ftup (nds o)] h = .ok y h) xs ys) :
    A2 (fun x y => lcTurn (.v 4) (evE (F (m + 1)) G c_shut_below_0) (evE (F (m + 1)) G x_shut_below_0) [r0, some (.int u), some (.ftup (nds o)), some (.int mo), none] x h = .ok (some y) h) xs ys :=
  hb.imp fun x y p => by simp [p]
theorem shut_step {d : Kd} {u m : Nat} (hs : d.sm) (hl : d.leaf = false) (hb : A2 (fun x y => C (m + 1) n_shut_below [x, .int (u + d.bn : Nat), .ftup (nds o)] h = .ok y h) d.ins (d.tri (shutG o) u)) :
    C (m + 2) n_shut_below [d.d, .int u, .ftup (nds o)] h = .ok (d.tr (shutG o) u).d h := by
  have hz : d.ins.length ≤ 16777216 := by have := ins_len d hs; omega
  have hb' := shut_turns (u := u) (r0 := some d.d) hb
  simp only [Int.natCast_add] at hb'
  simp [C_shut_below, idx0, nm_var hl, nm_free hl, binds_ok, insides_ok m h d hs, hz, lcA hb', with_ok m h (shutG o) u d hs hl]
mutual
theorem shut_ok : ∀ (d : Kd) (u n : Nat), d.sm → d.dep ≤ n → C (n + 3) n_shut_below [d.d, .int u, .ftup (nds o)] h = .ok (d.tr (shutG o) u).d h
  | .int, u, n, _, _ => by simp [C_shut_below, C_binds, C_insides, C_with_insides, Kd.d, Kd.tr, lcLoop]
  | .free v, u, n, _, _ => shut_leaf (n + 2) v u true
  | .var v, u, n, _, _ => shut_leaf (n + 2) v u false
  | .un w d, u, n + 1, hs, hd => shut_step (m := n + 2) hs rfl (.cons (shut_ok d (u + w.bn) n hs (by simp [Kd.dep] at hd; omega)) .nil)
  | .mn m ks, u, n + 1, hs, hd => shut_step (m := n + 2) hs rfl (shuts_ok ks (u + m.bn) n hs.2 (by simp [Kd.dep] at hd; omega))
  | .to b ks l, u, n + 1, hs, hd => shut_step (m := n + 2) hs rfl ((shuts_ok ks (u + b) n hs.2.1 (by simp [Kd.dep] at hd; omega)).app (.cons (shut_ok l (u + b) n hs.2.2 (by simp [Kd.dep] at hd; omega)) .nil))
  | .un _ _, _, 0, _, hd => by simp [Kd.dep] at hd
  | .mn _ _, _, 0, _, hd => by simp [Kd.dep] at hd
  | .to _ _ _, _, 0, _, hd => by simp [Kd.dep] at hd
theorem shuts_ok : ∀ (ks : Ks) (u n : Nat), ks.sm → ks.dep ≤ n → A2 (fun x y => C (n + 3) n_shut_below [x, .int u, .ftup (nds o)] h = .ok y h) ks.ds (ks.tr (shutG o) u).ds
  | .nil, u, n, _, _ => .nil
  | .cons b k r, u, n, hs, hd => .cons (shut_ok k u n hs.1 (by simp [Ks.dep] at hd; omega)) (shuts_ok r u n hs.2 (by simp [Ks.dep] at hd; omega))
end
theorem shut_all (d : Kd) (n : Nat) (hs : d.sm) (hd : d.dep ≤ n) : C (n + 4) n_shut [d.d, .ftup (nds o)] h = .ok (d.tr (shutG o) 0).d h := by
  have := shut_ok (h := h) (o := o) d 0 n hs hd
  simp [C_shut] at this ⊢
  simp [this]
/-! filled -/
theorem fill_turns {xs ys : List D} {r0 : Option D} {m : Nat} (hb : A2 (fun x y => C (m + 1) n_filled [x, .tup (kds ss)] h = .ok y h) xs ys) :
    A2 (fun x y => lcTurn (.v 2) (evE (F (m + 1)) G c_filled_0) (evE (F (m + 1)) G x_filled_0) [r0, some (.tup (kds ss)), none] x h = .ok (some y) h) xs ys :=
  hb.imp fun x y p => by simp [p]
theorem fill_step {d : Kd} {u m : Nat} (hs : d.sm) (hl : d.leaf = false) (hb : A2 (fun x y => C (m + 1) n_filled [x, .tup (kds ss)] h = .ok y h) d.ins (d.tri (fillG ss) u)) :
    C (m + 2) n_filled [d.d, .tup (kds ss)] h = .ok (d.tr (fillG ss) u).d h := by
  have hz : d.ins.length ≤ 16777216 := by have := ins_len d hs; omega
  have hb' := fill_turns (r0 := some d.d) hb
  simp [C_filled, idx0, nm_free hl, insides_ok m h d hs, hz, lcA hb', with_ok m h (fillG ss) u d hs hl]
mutual
theorem fill_ok : ∀ (d : Kd) (u n : Nat), d.sm → d.wk ss.length u → d.dep ≤ n → C (n + 3) n_filled [d.d, .tup (kds ss)] h = .ok (d.tr (fillG ss) u).d h
  | .int, u, n, _, _, _ => by simp [C_filled, C_insides, C_with_insides, Kd.d, Kd.tr, lcLoop]
  | .free v, u, n, _, hw, _ => by
    have hw : v < ss.length := hw
    simp [C_filled, Kd.d, kds_at hw, Kd.tr, fillG, hw]
  | .var v, u, n, _, _, _ => by simp [C_filled, C_insides, C_with_insides, Kd.d, Kd.tr, lcLoop, fillG]
  | .un w d, u, n + 1, hs, hw, hd => fill_step (m := n + 2) hs rfl (.cons (fill_ok d (u + w.bn) n hs hw (by simp [Kd.dep] at hd; omega)) .nil)
  | .mn m ks, u, n + 1, hs, hw, hd => fill_step (m := n + 2) hs rfl (fills_ok ks (u + m.bn) n hs.2 hw (by simp [Kd.dep] at hd; omega))
  | .to b ks l, u, n + 1, hs, hw, hd => fill_step (m := n + 2) hs rfl ((fills_ok ks (u + b) n hs.2.1 hw.1 (by simp [Kd.dep] at hd; omega)).app (.cons (fill_ok l (u + b) n hs.2.2 hw.2 (by simp [Kd.dep] at hd; omega)) .nil))
  | .un _ _, _, 0, _, _, hd => by simp [Kd.dep] at hd
  | .mn _ _, _, 0, _, _, hd => by simp [Kd.dep] at hd
  | .to _ _ _, _, 0, _, _, hd => by simp [Kd.dep] at hd
theorem fills_ok : ∀ (ks : Ks) (u n : Nat), ks.sm → ks.wk ss.length u → ks.dep ≤ n → A2 (fun x y => C (n + 3) n_filled [x, .tup (kds ss)] h = .ok y h) ks.ds (ks.tr (fillG ss) u).ds
  | .nil, u, n, _, _, _ => .nil
  | .cons b k r, u, n, hs, hw, hd => .cons (fill_ok k u n hs.1 hw.1 (by simp [Ks.dep] at hd; omega)) (fills_ok r u n hs.2 hw.2 (by simp [Ks.dep] at hd; omega))
end
end
end K22
end

section
set_option maxRecDepth 100000
namespace K22
open PySem PV Kn
/-- a binder -/
def Kd.isB : Kd → Bool
  | .un .cel _ => false | .un _ _ => true
  | .mn (.not _) _ => true | .mn (.code _) _ => true
  | .to _ _ _ => true
  | _ => false
/-- what opened tells: the inside -/
def Kd.op : Kd → D
  | .un _ k => k.d
  | .mn (.code _) ks => .tup ks.gs
  | .mn _ ks => .tup ks.ds
  | .to _ ks l => .tup [.tup ks.ds, l.d]
  | k => k.d
theorem isB_leaf {d : Kd} (h : Kd.isB d = true) : d.leaf = false := by cases d <;> first | rfl | cases h
section
variable {h : Hh} {ss : List Kd} {d : Kd} {n : Nat}
theorem puts0 (hs : d.sm) (hd : d.dep ≤ n + 1) : A2 (fun x y => C (n + 3) n_put_below [x, .int 0, .tup (kds ss)] h = .ok y h) d.ins (d.ini (putG ss) 0) := by
  cases d with
  | un w k => exact .cons (put_ok k 0 n hs (by simp [Kd.dep] at hd; omega)) .nil
  | mn m ks => exact puts_ok ks 0 n hs.2 (by simp [Kd.dep] at hd; omega)
  | to b ks l => exact (puts_ok ks 0 n hs.2.1 (by simp [Kd.dep] at hd; omega)).app (.cons (put_ok l 0 n hs.2.2 (by simp [Kd.dep] at hd; omega)) .nil)
  | _ => exact .nil
theorem opened_turns {xs ys : List D} {r0 r2 : Option D} {m : Nat} (hb : A2 (fun x y => C m n_put_below [x, .int 0, .tup (kds ss)] h = .ok y h) xs ys) :
    A2 (fun x y => lcTurn (.v 3) (evE (F m) G c_opened_0) (evE (F m) G x_opened_0) [r0, some (.tup (kds ss)), r2, none] x h = .ok (some y) h) xs ys :=
  hb.imp fun x y p => by simp [p]
theorem opened_ok (hs : d.sm) (hB : Kd.isB d = true) (hd : d.dep ≤ n + 1) : C (n + 4) n_opened [d.d, .tup (kds ss)] h = .ok (Kd.op (d.inn (putG ss) 0)) h := by
  have hz : d.ins.length ≤ 16777216 := by have := ins_len d hs; omega
  have hb := opened_turns (r0 := some d.d) (r2 := none) (puts0 (h := h) (ss := ss) hs hd)
  have hw := with_inn (n + 2) h (putG ss) 0 d hs (isB_leaf hB)
  simp [C_opened, insides_ok (n + 2) h d hs, hz, lcA hb, hw, idx0]
  cases d with
  | un w k => cases w <;> first | (simp [Kd.nm, Kd.inn, Kd.d, Kd.op]; done) | cases hB
  | mn m ks => cases m <;> first | (simp [Kd.nm, Kd.inn, Kd.d, Kd.op]; done) | cases hB
  | to b ks l => simp [Kd.nm, Kd.inn, Kd.d, Kd.op]
  | _ => cases hB
end
end K22
end

section
set_option maxRecDepth 100000
namespace K22
open PySem PV Kn
theorem lcM {turn : D → Hh → R (Option D)} {h : Hh} (g : D → D) {xs : List D} {acc : List D} (p : ∀ x ∈ xs, turn x h = .ok (some (g x)) h) : lcLoop (fun _ => true) turn xs acc h = .ok (.lst (acc ++ xs.map g)) h := by
  rw [lcF (fun x => some (g x)) p]
  simp
theorem bls_map (p : D → Bool) : ∀ xs : List D, D.bls (xs.map fun x => .bl (p x)) = some (xs.map p)
  | [] => rfl
  | x :: xs => by show (D.bls (xs.map fun x => .bl (p x))).map _ = _; rw [bls_map p xs]; rfl
theorem all_map {h : Hh} (p : D → Bool) (xs : List D) : opBf .all h [.lst (xs.map fun x => .bl (p x))] = some (.bl (xs.all p)) := by
  show ((D.bls (xs.map fun x => .bl (p x))).map fun bs => D.bl (bs.all id)) = _
  rw [bls_map]
  simp
section
variable {h : Hh} {k : Nat}
theorem ne_nil {xs : List D} (hx : P64 (.tup xs)) : opCmp .ne h (.tup xs) (.tup []) = some (!xs.isEmpty) := by
  show Option.map _ (if (D.tup xs).shp && (D.tup []).shp then some ((D.tup xs).eqv (.tup [])) else none) = _
  rw [hx.shp, shp_strs0]
  cases xs <;> rfl
theorem eq_nil {xs : List D} (hx : P64 (.tup xs)) : opCmp .eq h (.tup xs) (.tup []) = some (xs.isEmpty) := by
  show (if (D.tup xs).shp && (D.tup []).shp then some ((D.tup xs).eqv (.tup [])) else none) = _
  rw [hx.shp, shp_strs0]
  cases xs <;> rfl
theorem is_integer_ok (x : D) (hx : x.isF = false) : C (k + 1) n_is_integer [x] h = .ok (.bl (match x with | .int _ => true | _ => false)) h := by
  cases x <;> simp [C_is_integer, opIsi, D.isF] at hx ⊢
theorem is_tuple_of_ok (n : Int) (x : D) (hx : x.isF = false) : C (k + 1) n_is_tuple_of [.int n, x] h = .ok (.bl (match x with | .tup xs => (xs.length : Int) == n | _ => false)) h := by
  cases x <;> simp [C_is_tuple_of, opIsi, D.isF] at hx ⊢
def neTup : D → Bool
  | .tup xs => !xs.isEmpty
  | _ => false
def hdStr : D → Bool
  | .tup (.str _ :: _) => true
  | _ => false
theorem isHd_eq (x : D) : isHd x = (neTup x && hdStr x) := by
  unfold isHd neTup hdStr
  split
  · rfl
  · split <;> simp_all
theorem is_kinds_tup {xs : List D} (hx : ∀ y ∈ xs, P64 y) (hl : xs.length ≤ 1000000) : C (k + 1) n_is_kinds [.tup xs] h = .ok (.bl (isHds (.tup xs))) h := by
    have hz : xs.length ≤ 16777216 := by omega
    have l1 : ∀ {r : Option D}, lcLoop (fun _ => true) (lcTurn (.v 1) (evE (F k) G c_is_kinds_0) (evE (F k) G x_is_kinds_0) [r, none]) xs [] h = .ok (.lst (xs.map fun x => .bl (neTup x))) h := by
      intro r
      refine lcM (acc := []) (fun x => .bl (neTup x)) fun y hy => ?_
      have py := hx y hy
      cases y with
      | tup ys => simp [opIsi, D.isF, ne_nil py, neTup]
      | _ => first | (simp [opIsi, D.isF, neTup]; done) | cases py.1
    by_cases ha : xs.all neTup = true
    · have l2 : ∀ {r : Option D}, lcLoop (fun _ => true) (lcTurn (.v 1) (evE (F k) G c_is_kinds_1) (evE (F k) G x_is_kinds_1) [r, none]) xs [] h = .ok (.lst (xs.map fun x => .bl (hdStr x))) h := by
        intro r
        refine lcM (acc := []) (fun x => .bl (hdStr x)) fun y hy => ?_
        have py := hx y hy
        have ny := List.all_eq_true.mp ha y hy
        cases y with
        | tup ys =>
          cases ys with
          | nil => cases ny
          | cons a r =>
            have pa := py.sub List.mem_cons_self
            cases a <;> first | (simp [opIsi, D.isF, hdStr]; done) | cases pa.1
        | _ => cases ny
      have e : xs.all isHd = xs.all hdStr := by
        have : ∀ ys : List D, ys.all neTup = true → ys.all isHd = ys.all hdStr := by
          intro ys
          induction ys with
          | nil => intro _; rfl
          | cons a r ih =>
            intro hy
            simp only [List.all_cons, Bool.and_eq_true] at hy ⊢
            rw [ih hy.2, isHd_eq, hy.1, Bool.true_and]
        exact this xs ha
      simp [C_is_kinds, opIsi, D.isF, hz, l1, l2, all_map, ha, isHds, e]
    · have e : xs.all isHd = false := by
        cases q : xs.all isHd with
        | false => rfl
        | true =>
          exfalso; apply ha
          refine List.all_eq_true.mpr fun y hy => ?_
          have := List.all_eq_true.mp q y hy
          rw [isHd_eq] at this
          simp only [Bool.and_eq_true] at this
          exact this.1
      have ha : xs.all neTup = false := by simpa using ha
      simp [C_is_kinds, opIsi, D.isF, hz, l1, all_map, ha, isHds, e]
theorem is_kinds_ok (x : D) (hx : P64 x) : C (k + 1) n_is_kinds [x] h = .ok (.bl (isHds x)) h := by
  cases x with
  | tup xs => exact is_kinds_tup (fun y hy => hx.sub hy) hx.len
  | _ => first | (simp [C_is_kinds, opIsi, D.isF, isHds]; done) | cases hx.1
theorem is_pairs_ok (x : D) (hx : P64 x) : C (k + 2) n_is_pairs [x] h = .ok (.bl (isPrs x)) h := by
  cases x with
  | tup xs =>
    have hz : xs.length ≤ 16777216 := Nat.le_trans hx.len (by omega)
    have l1 : ∀ {r : Option D}, lcLoop (fun _ => true) (lcTurn (.v 1) (evE (F (k + 1)) G c_is_pairs_0) (evE (F (k + 1)) G x_is_pairs_0) [r, none]) xs [] h = .ok (.lst (xs.map fun x => .bl (isPr x))) h := by
      intro r
      refine lcM (acc := []) (fun x => .bl (isPr x)) fun y hy => ?_
      have py := hx.sub hy
      have e : C (k + 1) n_is_tuple_of [.int 2, y] h = .ok (.bl (isPr y)) h := by
        have f : y.isF = false := by cases y <;> first | rfl | cases py.1
        rw [is_tuple_of_ok 2 y f]
        congr 2
        cases y with
        | tup ys =>
          rcases ys with _ | ⟨a, _ | ⟨b, _ | ⟨c, r⟩⟩⟩ <;> simp [isPr] <;> omega
        | _ => rfl
      simp [e]
    simp [C_is_pairs, opIsi, D.isF, hz, l1, all_map, isPrs]
  | _ => first | (simp [C_is_pairs, opIsi, D.isF, isPrs]; done) | cases hx.1
end
end K22
end

section
set_option maxRecDepth 100000
namespace K22
open PySem PV Kn
theorem rise_range : ∀ xs : List D, (List.range (xs.length - 1)).all (fun k => ltD (xs.getD k .non) (xs.getD (k + 1) .non)) = rise xs
  | [] => rfl
  | [x] => rfl
  | x :: y :: r => by
    have ih := rise_range (y :: r)
    show (List.range (r.length + 1)).all _ = (ltD x y && rise (y :: r))
    rw [List.range_succ_eq_map, List.all_cons, List.all_map, ← ih]
    rfl
def riseAt (xs : List D) : D → Bool
  | .int i => ltD (xs.getD i.toNat .non) (xs.getD (i.toNat + 1) .non)
  | _ => false
theorem h62 : (2 : Int) ^ 62 = 4611686018427387904 := by decide +kernel
theorem rng_ok {n : Int} (h0 : -1 ≤ n) (hn : n ≤ 1000000000) : rngOk 0 n = true := by
  unfold rngOk
  rw [h62]
  (simp only [Bool.and_eq_true, decide_eq_true_eq])
  omega
theorem rngD_len (n : Int) : (rngD 0 n).length = n.toNat := by simp [rngD]
section
variable {h : Hh} {k : Nat}
theorem is_rising_ok {xs : List D} (hp : ∀ x ∈ xs, P64 x) (hz : xs.length ≤ 1000000) : C (k + 2) n_is_rising [.lst xs] h = .ok (.bl (rising xs)) h := by
  have hz' : xs.length ≤ 16777216 := by omega
  have l1 : ∀ {r r2 : Option D}, lcLoop (fun _ => true) (lcTurn (.v 1) (evE (F (k + 1)) G c_is_rising_0) (evE (F (k + 1)) G x_is_rising_0) [r, none, r2]) xs [] h = .ok (.lst (xs.map fun x => .bl (isNt x))) h := by
    intro r r2
    refine lcM (acc := []) (fun x => .bl (isNt x)) fun y hy => ?_
    have py := hp y hy
    have f : y.isF = false := by cases y <;> first | rfl | cases py.1
    cases y <;> simp [is_integer_ok _ f, isNt]
  by_cases ha : xs.all isNt = true
  · have hr : rngOk 0 ((xs.length : Int) - 1) = true := rng_ok (by omega) (by omega)
    have hz2 : xs.length ≤ 16777217 := by omega
    have hl : ((xs.length : Int) - 1).toNat ≤ 16777216 := by omega
    have l2 : ∀ {r : Option D}, lcLoop (fun _ => true) (lcTurn (.v 2) (evE (F (k + 1)) G c_is_rising_1) (evE (F (k + 1)) G x_is_rising_1) [some (.lst xs), r, none]) (rngD 0 ((xs.length : Int) - 1)) [] h = .ok (.lst ((rngD 0 ((xs.length : Int) - 1)).map fun x => .bl (riseAt xs x))) h := by
      intro r
      refine lcM (acc := []) (fun x => .bl (riseAt xs x)) fun y hy => ?_
      unfold rngD at hy
      obtain ⟨i, hi, rfl⟩ := List.mem_map.mp hy
      have hi := List.mem_range.mp hi
      have h1 : i < xs.length := by omega
      have h2 : i + 1 < xs.length := by omega
      have e1 : L2.atI xs (i : Int) = some xs[i] := L2.atI_nat (List.getElem?_eq_getElem h1)
      have e2 : L2.atI xs ((i : Int) + 1) = some xs[i + 1] := by
        have := L2.atI_nat (j := i + 1) (List.getElem?_eq_getElem h2)
        simpa using this
      have a1 := List.all_eq_true.mp ha _ (List.getElem_mem h1)
      have a2 := List.all_eq_true.mp ha _ (List.getElem_mem h2)
      cases q1 : xs[i] <;> rw [q1] at a1 <;> first | cases a1 | skip
      cases q2 : xs[i + 1] <;> rw [q2] at a2 <;> first | cases a2 | skip
      simp [e1, e2, q1, q2, h1, h2, ltD, riseAt]
    have e : (rngD 0 ((xs.length : Int) - 1)).all (riseAt xs) = rise xs := by
      rw [← rise_range xs]
      unfold rngD
      rw [List.all_map]
      have : ((xs.length : Int) - 1 - 0).toNat = xs.length - 1 := by omega
      rw [this]
      congr 1
      funext i
      simp [riseAt]
    have al := all_map (h := h) (riseAt xs) (rngD 0 ((xs.length : Int) - 1))
    rw [e] at al
    simp [C_is_rising, hz', l1, l2, all_map isNt, ha, hr, rngD_len, hl, hz2, al, rising]
  · have ha : xs.all isNt = false := by simpa using ha
    simp [C_is_rising, hz', l1, all_map isNt, ha, rising]
end
end K22
end

section
set_option maxRecDepth 100000
namespace K22
open PySem PV Kn
section
variable {h : Hh} {k : Nat}
theorem form_int {rest : List D} (hx : P64 (.tup (.str "int" :: rest))) : C (k + 3) n_has_form [.tup (.str "int" :: rest)] h = .ok (.bl rest.isEmpty) h := by
  simp [C_has_form, eq_nil hx.tl]
theorem form_var {w : Str} {rest : List D} (hx : P64 (.tup (.str w :: rest))) (hw : w = "free" ∨ w = "var") : C (k + 3) n_has_form [.tup (.str w :: rest)] h = .ok (.bl (one1 isNt rest)) h := by
  rcases rest with _ | ⟨x, _ | ⟨y, r⟩⟩
  · rcases hw with rfl | rfl <;> simp [C_has_form, one1]
  · have px := hx.tl.sub List.mem_cons_self
    rcases hw with rfl | rfl <;> cases x <;> simp [C_has_form, is_integer_ok _ px.nf, isNt, one1]
  · have e : ((r.length : Int) + 1 + 1 == 1) = false := beq_eq_false_iff_ne.mpr (by omega)
    rcases hw with rfl | rfl <;> simp [C_has_form, e, one1]
theorem form_un {w : Str} {rest : List D} (hx : P64 (.tup (.str w :: rest))) (hw : w = "cell" ∨ w = "some" ∨ w = "rec") : C (k + 3) n_has_form [.tup (.str w :: rest)] h = .ok (.bl (one1 (fun x => isHd x && (!decide (w = "rec") || !hdV x)) rest)) h := by
  rcases rest with _ | ⟨x, _ | ⟨y, r⟩⟩
  · rcases hw with rfl | rfl | rfl <;> simp [C_has_form, one1]
  · have e := is_kinds_ok (k := k + 1) (h := h) _ hx.tl
    have e2 : isHds (.tup [x]) = isHd x := by simp [isHds]
    rw [e2] at e
    cases q : isHd x with
    | false => rw [q] at e; rcases hw with rfl | rfl | rfl <;> simp [C_has_form, e, one1, q]
    | true =>
      rw [q] at e
      unfold isHd at q
      split at q
      · rename_i w' r
        have hs : PyData.strOk w' = true := ((hx.tl.sub List.mem_cons_self).sub List.mem_cons_self).1
        rcases hw with rfl | rfl | rfl <;> simp [C_has_form, e, one1, isHd, hdV, hs, eq_comm]
      · cases q
  · have e : ((r.length : Int) + 1 + 1 == 1) = false := beq_eq_false_iff_ne.mpr (by omega)
    rcases hw with rfl | rfl | rfl <;> simp [C_has_form, e, one1]
theorem form_row {w : Str} {rest : List D} (hx : P64 (.tup (.str w :: rest))) (hw : w = "row" ∨ w = "one") : C (k + 3) n_has_form [.tup (.str w :: rest)] h = .ok (.bl (one1 (fun x => isHds x && (decide (w = "row") || !(items x).isEmpty)) rest)) h := by
  rcases rest with _ | ⟨x, _ | ⟨y, r⟩⟩
  · rcases hw with rfl | rfl <;> simp [C_has_form, one1]
  · have px := hx.tl.sub List.mem_cons_self
    have e := is_kinds_ok (k := k + 1) (h := h) _ px
    cases q : isHds x with
    | false => rw [q] at e; rcases hw with rfl | rfl <;> simp [C_has_form, e, one1, q]
    | true =>
      rw [q] at e
      cases x with
      | tup xs => rcases hw with rfl | rfl <;> simp [C_has_form, e, one1, q, ne_nil px, items]
      | _ => cases q
  · have e : ((r.length : Int) + 1 + 1 == 1) = false := beq_eq_false_iff_ne.mpr (by omega)
    rcases hw with rfl | rfl <;> simp [C_has_form, e, one1]
theorem form_room {rest : List D} (hx : P64 (.tup (.str "room" :: rest))) : C (k + 3) n_has_form [.tup (.str "room" :: rest)] h = .ok (.bl (one1 (fun x => isPrs x && (items x).all fun p => isBl (snd p)) rest)) h := by
  rcases rest with _ | ⟨x, _ | ⟨y, r⟩⟩
  · simp [C_has_form, one1]
  · have px := hx.tl.sub List.mem_cons_self
    have e := is_pairs_ok (k := k) (h := h) _ px
    cases q : isPrs x with
    | false => rw [q] at e; simp [C_has_form, e, one1, q]
    | true =>
      rw [q] at e
      cases x with
      | tup xs =>
        have hz : xs.length ≤ 16777216 := Nat.le_trans px.len (by omega)
        have l1 : ∀ {r0 r1 r2 : Option D}, lcLoop (fun _ => true) (lcTurn (.v 3) (evE (F (k + 2)) G c_has_form_0) (evE (F (k + 2)) G x_has_form_0) [r0, r1, r2, none]) xs [] h = .ok (.lst (xs.map fun p => .bl (isBl (snd p)))) h := by
          intro r0 r1 r2
          refine lcM (acc := []) (fun p => .bl (isBl (snd p))) fun y hy => ?_
          have py := List.all_eq_true.mp q y hy
          have hy2 := px.sub hy
          unfold isPr at py
          split at py
          · rename_i a b
            have pb := hy2.sub (x := b) (by simp)
            cases b <;> first | (simp [pb.nf, snd, isBl, opIsi]; done) | cases pb.1
          · cases py
        simp [C_has_form, e, one1, q, hz, l1, all_map (fun p => isBl (snd p)), items]
      | _ => cases q
  · have e : ((r.length : Int) + 1 + 1 == 1) = false := beq_eq_false_iff_ne.mpr (by omega)
    simp [C_has_form, e, one1]
theorem g0 : (G[0]? : Option D) = some (.int 10000) := rfl
theorem form_not {rest : List D} (hx : P64 (.tup (.str "not" :: rest))) : C (k + 3) n_has_form [.tup (.str "not" :: rest)] h = .ok (.bl (two2 (fun n x => inB n && isHds x) rest)) h := by
  rcases rest with _ | ⟨x, _ | ⟨y, _ | ⟨z, r⟩⟩⟩
  · simp [C_has_form, two2]
  · simp [C_has_form, two2]
  · have px := hx.tl.sub List.mem_cons_self
    have py := hx.tl.tl.sub List.mem_cons_self
    have e := is_kinds_ok (k := k + 1) (h := h) _ py
    have e0 := is_kinds_ok (k := k + 1) (h := h) _ hx.tl.tl.tl
    cases x with
    | int n =>
      by_cases h0 : 0 ≤ n
      · by_cases h1 : n ≤ 10000
        · rw [show isHds (.tup []) = true from rfl] at e0
          cases q : isHds y <;> rw [q] at e <;> simp [C_has_form, is_integer_ok _ px.nf, h0, h1, e, e0, two2, inB, bnd, q]
        · simp [C_has_form, is_integer_ok _ px.nf, h0, h1, two2, inB, bnd]
      · simp [C_has_form, is_integer_ok _ px.nf, h0, two2, inB, bnd]
    | _ => simp [C_has_form, is_integer_ok _ px.nf, two2, inB]
  · have e : ((r.length : Int) + 1 + 1 + 1 == 2) = false := beq_eq_false_iff_ne.mpr (by omega)
    simp [C_has_form, e, two2]
theorem form_to {rest : List D} (hx : P64 (.tup (.str "to" :: rest))) : C (k + 3) n_has_form [.tup (.str "to" :: rest)] h = .ok (.bl (three3 (fun n x y => inB n && (isHds x && isHd y)) rest)) h := by
  rcases rest with _ | ⟨x, _ | ⟨y, _ | ⟨z, _ | ⟨t, r⟩⟩⟩⟩
  · simp [C_has_form, three3]
  · simp [C_has_form, three3]
  · simp [C_has_form, three3]
  · have px := hx.tl.sub List.mem_cons_self
    have py := hx.tl.tl.sub List.mem_cons_self
    have e := is_kinds_ok (k := k + 1) (h := h) _ py
    have e0 := is_kinds_ok (k := k + 1) (h := h) _ hx.tl.tl.tl
    rw [show isHds (.tup [z]) = isHd z from by simp [isHds]] at e0
    cases x with
    | int n =>
      by_cases h0 : 0 ≤ n
      · by_cases h1 : n ≤ 10000
        · cases q : isHds y <;> cases q2 : isHd z <;> rw [q] at e <;> rw [q2] at e0 <;> simp [C_has_form, is_integer_ok _ px.nf, h0, h1, e, e0, three3, inB, bnd, q, q2]
        · simp [C_has_form, is_integer_ok _ px.nf, h0, h1, three3, inB, bnd]
      · simp [C_has_form, is_integer_ok _ px.nf, h0, three3, inB, bnd]
    | _ => simp [C_has_form, is_integer_ok _ px.nf, three3, inB]
  · have e : ((r.length : Int) + 1 + 1 + 1 + 1 == 3) = false := beq_eq_false_iff_ne.mpr (by omega)
    simp [C_has_form, e, three3]
theorem form_code {rest : List D} (hx : P64 (.tup (.str "code" :: rest))) : C (k + 3) n_has_form [.tup (.str "code" :: rest)] h = .ok (.bl (two2 (fun n x => inB n && (isPrs x && rising ((items x).map fst))) rest)) h := by
  rcases rest with _ | ⟨x, _ | ⟨y, _ | ⟨z, r⟩⟩⟩
  · simp [C_has_form, two2]
  · simp [C_has_form, two2]
  · have px := hx.tl.sub List.mem_cons_self
    have py := hx.tl.tl.sub List.mem_cons_self
    have e := is_pairs_ok (k := k) (h := h) _ py
    cases x with
    | int n =>
      by_cases h0 : 0 ≤ n
      · by_cases h1 : n ≤ 10000
        · cases q : isPrs y with
          | false => rw [q] at e; simp [C_has_form, is_integer_ok _ px.nf, h0, h1, e, two2, inB, bnd, q]
          | true =>
            rw [q] at e
            cases y with
            | tup xs =>
              have hz : xs.length ≤ 16777216 := Nat.le_trans py.len (by omega)
              have pr : ∀ y ∈ xs, ∃ a b, y = .tup [a, b] ∧ P64 a := fun y hy => by
                have q1 := List.all_eq_true.mp q y hy
                unfold isPr at q1
                split at q1
                · exact ⟨_, _, rfl, (py.sub hy).sub List.mem_cons_self⟩
                · cases q1
              have l1 : ∀ {r0 r1 r2 : Option D}, lcLoop (fun _ => true) (lcTurn (.v 3) (evE (F (k + 2)) G c_has_form_1) (evE (F (k + 2)) G x_has_form_1) [r0, r1, r2, none]) xs [] h = .ok (.lst (xs.map fst)) h := by
                intro r0 r1 r2
                refine lcM (acc := []) fst fun y hy => ?_
                obtain ⟨a, b, rfl, _⟩ := pr y hy
                simp [fst]
              have hr := is_rising_ok (h := h) (k := k) (xs := xs.map fst) (fun z hz => by
                obtain ⟨y, hy, rfl⟩ := List.mem_map.mp hz
                obtain ⟨a, b, rfl, pa⟩ := pr y hy
                exact pa) (by rw [List.length_map]; exact py.len)
              cases q2 : rising (xs.map fst) <;> rw [q2] at hr <;> simp [C_has_form, is_integer_ok _ px.nf, h0, h1, e, two2, inB, bnd, q, hz, l1, items, hr, q2]
            | _ => cases q
        · simp [C_has_form, is_integer_ok _ px.nf, h0, h1, two2, inB, bnd]
      · simp [C_has_form, is_integer_ok _ px.nf, h0, two2, inB, bnd]
    | _ => simp [C_has_form, is_integer_ok _ px.nf, two2, inB]
  · have e : ((r.length : Int) + 1 + 1 + 1 == 2) = false := beq_eq_false_iff_ne.mpr (by omega)
    simp [C_has_form, e, two2]
theorem has_form_ok {w : Str} {rest : List D} (hx : P64 (.tup (.str w :: rest))) : C (k + 3) n_has_form [.tup (.str w :: rest)] h = .ok (.bl (form w rest)) h := by
  unfold form
  by_cases h1 : w = "int"
  · subst h1; rw [if_pos rfl]; exact form_int hx
  rw [if_neg h1]
  by_cases h2 : w = "free" ∨ w = "var"
  · rw [if_pos h2]; exact form_var hx h2
  rw [if_neg h2]
  by_cases h3 : w = "cell" ∨ w = "some" ∨ w = "rec"
  · rw [if_pos h3]; exact form_un hx h3
  rw [if_neg h3]
  by_cases h4 : w = "row" ∨ w = "one"
  · rw [if_pos h4]; exact form_row hx h4
  rw [if_neg h4]
  by_cases h5 : w = "room"
  · subst h5; rw [if_pos rfl]; exact form_room hx
  rw [if_neg h5]
  by_cases h6 : w = "not"
  · subst h6; rw [if_pos rfl]; exact form_not hx
  rw [if_neg h6]
  by_cases h7 : w = "to"
  · subst h7; rw [if_pos rfl]; exact form_to hx
  rw [if_neg h7]
  by_cases h8 : w = "code"
  · subst h8; rw [if_pos rfl]; exact form_code hx
  rw [if_neg h8]
  simp only [not_or] at h2 h3 h4
  have hs : PyData.strOk w = true := (hx.sub List.mem_cons_self).1
  simp [C_has_form, h1, Ne.symm h2.1, Ne.symm h2.2, Ne.symm h3.1, Ne.symm h3.2.1, Ne.symm h3.2.2, Ne.symm h4.1, Ne.symm h4.2, h5, Ne.symm h6, Ne.symm h7, Ne.symm h8, hs]
end
end K22
end

section
set_option maxRecDepth 100000
namespace K22
open PySem PV Kn
section
variable {h : Hh} {k : Nat}
theorem insides_fm {w : Str} {rest : List D} (f : Fm w rest) (hp : ∀ y ∈ rest, P64 y) : C (k + 1) n_insides [.tup (.str w :: rest)] h = .ok (.tup (inn w rest)) h := by
  have hz : ∀ {xs : List D}, D.tup xs ∈ rest → xs.length ≤ 16777215 := fun hm => Nat.le_trans (hp _ hm).len (by omega)
  cases f with
  | room xs ha hb =>
    have z := hz (xs := xs) (by simp)
    have z' : xs.length ≤ 16777216 := by omega
    have l1 : ∀ {r0 r1 r2 r3 r4 : Option D}, lcLoop (fun _ => true) (lcTurn (.tu [2, 3]) (evE (F k) G c_insides_0) (evE (F k) G x_insides_0) [r0, r1, r2, r3, r4]) xs [] h = .ok (.lst (xs.map fst)) h := by
      intro r0 r1 r2 r3 r4
      refine lcM (acc := []) fst fun y hy => ?_
      obtain ⟨a, b, rfl⟩ := isPr_eq (List.all_eq_true.mp ha y hy)
      simp [fst]
    simp [C_insides, inn, items, z', l1]
  | code n xs _ _ ha hb =>
    have z := hz (xs := xs) (by simp)
    have z' : xs.length ≤ 16777216 := by omega
    have l1 : ∀ {r0 r1 r2 r3 r4 : Option D}, lcLoop (fun _ => true) (lcTurn (.tu [4, 2]) (evE (F k) G c_insides_1) (evE (F k) G x_insides_1) [r0, r1, r2, r3, r4]) xs [] h = .ok (.lst (xs.map snd)) h := by
      intro r0 r1 r2 r3 r4
      refine lcM (acc := []) snd fun y hy => ?_
      obtain ⟨a, b, rfl⟩ := isPr_eq (List.all_eq_true.mp ha y hy)
      simp [snd]
    simp [C_insides, inn, items, z', l1]
  | to n xs l _ _ _ _ =>
    have z := hz (xs := xs) (by simp)
    simp [C_insides, inn, items, z]
  | _ => simp [C_insides, inn, items]
theorem binds_fm {w : Str} {rest : List D} (f : Fm w rest) : C (k + 1) n_binds [.tup (.str w :: rest)] h = .ok (.int (bnn w rest)) h := by
  cases f <;> simp [C_binds, bnn, numD]
def wds (ws : List Str) : List D := ws.map D.str
theorem in_ws {ws : List Str} {w : Str} (hw : ∀ x ∈ ws, PyData.strOk x = true) (hs : PyData.strOk w = true) : opCmp .nin h (.str w) (.tup (wds ws ++ [.str "free", .str "var"])) = some (!(decide (w ∈ ws) || decide (w = "free") || decide (w = "var"))) := by
  rw [nin_eq, in_tup, shp_flats (by simp [wds, D.flat]; exact hw)]
  have e : (D.str w).shp = true := by simpa using hs
  rw [e]
  have : ((wds ws ++ [D.str "free", D.str "var"]).any fun y => y.eqv (.str w)) = (decide (w ∈ ws) || decide (w = "free") || decide (w = "var")) := by
    rw [List.any_append]
    have a : ((wds ws).any fun y => y.eqv (.str w)) = decide (w ∈ ws) := by
      unfold wds
      rw [List.any_map]
      induction ws with
      | nil => rfl
      | cons a r ih =>
        rw [List.any_cons, ih fun x hx => hw x (List.mem_cons_of_mem _ hx)]
        by_cases q : a = w
        · subst q; simp
        · have q' : ¬ w = a := fun e => q e.symm
          simp [q, q']
    rw [a]
    simp [eq_comm, Bool.or_assoc]
  rw [this]; rfl
theorem wds_len (ws : List Str) : (wds ws).length = ws.length := List.length_map ..
theorem isHd_inv {d : D} (h : isHd d = true) : ∃ w rest, d = .tup (.str w :: rest) := by
  unfold isHd at h
  split at h
  · exact ⟨_, _, rfl⟩
  · cases h
theorem isK_not {ws : List Str} {f u : Int} {n : Nat} {d : D} (h : isHd d = false) : isK ws f n u d = false := by
  cases n with
  | zero => rfl
  | succ n =>
    unfold isK
    split
    · cases ‹_ = Nat.zero›
    · cases h
    · rfl
theorem isk_step {ws : List Str} {f : Int} (hw : ∀ x ∈ ws, PyData.strOk x = true) (hl : ws.length ≤ 1000) {n m : Nat} {u : Int} {d : D} (hd : P64 d)
    (ih : ∀ w rest, d = .tup (.str w :: rest) → Fm w rest → ∀ x ∈ inn w rest, ∀ u' : Int, C (m + 3) n_is_kind_below [x, .int f, .int u', .tup (wds ws)] h = .ok (.bl (isK ws f n u' x)) h) :
    C (m + 4) n_is_kind_below [d, .int f, .int u, .tup (wds ws)] h = .ok (.bl (isK ws f (n + 1) u d)) h := by
  have e1 := is_kinds_tup (k := m + 2) (h := h) (xs := [d]) (fun y hy => by rw [List.mem_singleton.mp hy]; exact hd) (by simp)
  rw [show isHds (.tup [d]) = isHd d from by simp [isHds]] at e1
  cases q : isHd d with
  | false =>
    rw [q] at e1
    rw [isK_not q]
    simp [C_is_kind_below, e1]
  | true =>
    rw [q] at e1
    obtain ⟨w, rest, rfl⟩ := isHd_inv q
    have hs : PyData.strOk w = true := (hd.sub List.mem_cons_self).1
    have e2 := in_ws (h := h) hw hs
    have hz : ws.length + 2 ≤ 16777216 := by omega
    have e3 := has_form_ok (h := h) (k := m) hd
    unfold isK
    cases q2 : (decide (w ∈ ws) || decide (w = "free") || decide (w = "var")) with
    | false =>
      rw [q2] at e2
      simp [C_is_kind_below, e1, wds_len, hz, e2]
    | true =>
      rw [q2] at e2
      cases q3 : form w rest with
      | false =>
        rw [q3] at e3
        simp [C_is_kind_below, e1, wds_len, hz, e2, e3]
      | true =>
        rw [q3] at e3
        have fm := form_fm q3
        by_cases hf : w = "free"
        · subst hf
          cases fm with
          | free n hn => simp [C_is_kind_below, e1, wds_len, hz, e2, e3, numD]
        · by_cases hv : w = "var"
          · subst hv
            cases fm with
            | var n hn => simp [C_is_kind_below, e1, wds_len, hz, e2, e3, numD]
          · have e4 := insides_fm (k := m + 2) (h := h) fm fun y hy => hd.tl.sub hy
            have e5 := binds_fm (k := m + 2) (h := h) fm
            have l1 : ∀ {r : Option D}, lcLoop (fun _ => true) (lcTurn (.v 4) (evE (F (m + 3)) G c_is_kind_below_0) (evE (F (m + 3)) G x_is_kind_below_0) [some (.tup (.str w :: rest)), some (.int f), some (.int u), some (.tup (wds ws)), r]) (inn w rest) [] h = .ok (.lst ((inn w rest).map fun x => .bl (isK ws f n (u + bnn w rest) x))) h := by
              intro r
              refine lcM (acc := []) (fun x => .bl (isK ws f n (u + bnn w rest) x)) fun y hy => ?_
              simp [e5, ih w rest rfl fm y hy]
            have hi : (inn w rest).length ≤ 16777216 := by
              have hx : ∀ {xs : List D}, D.tup xs ∈ rest → xs.length ≤ 1000000 := fun hm => (hd.tl.sub hm).len
              cases fm with
              | row xs _ => simp [inn, items]; exact Nat.le_trans (hx (xs := xs) (by simp)) (by omega)
              | one xs _ _ => simp [inn, items]; exact Nat.le_trans (hx (xs := xs) (by simp)) (by omega)
              | room xs _ _ => simp [inn, items]; exact Nat.le_trans (hx (xs := xs) (by simp)) (by omega)
              | not n xs _ _ _ => simp [inn, items]; exact Nat.le_trans (hx (xs := xs) (by simp)) (by omega)
              | to n xs l _ _ _ _ => simp [inn, items]; exact Nat.le_trans (hx (xs := xs) (by simp)) (by omega)
              | code n xs _ _ _ _ => simp [inn, items]; exact Nat.le_trans (hx (xs := xs) (by simp)) (by omega)
              | _ => simp [inn]
            simp [C_is_kind_below, e1, wds_len, hz, e2, e3, Ne.symm hf, Ne.symm hv, hf, hv, hs, e4, hi, l1, all_map (fun x => isK ws f n (u + bnn w rest) x)]
theorem isk_ok {ws : List Str} {f : Int} (hw : ∀ x ∈ ws, PyData.strOk x = true) (hl : ws.length ≤ 1000) : ∀ (n N : Nat) (u : Int) (d : D), n ≤ 64 → n ≤ N → PN n d → C (N + 4) n_is_kind_below [d, .int f, .int u, .tup (wds ws)] h = .ok (.bl (isK ws f (n + 1) u d)) h
  | 0, N, u, d, hn, _, hd => isk_step hw hl (hd.p64 hn) fun w rest e _ => by subst e; have := hd.2; simp [D.dep] at this
  | n + 1, N + 1, u, d, hn, hN, hd => isk_step (m := N + 1) hw hl (hd.p64 hn) fun w rest e fm x hx u' => isk_ok hw hl n N u' x (by omega) (by omega) (inn_sub fm (by rw [← e]; exact hd) hx)
end
end K22
end

section
set_option maxRecDepth 100000
namespace K22
open PySem PV Kn
/-! ### turned -/
theorem cut_m1l (xs : List D) (y : D) : cutD (xs ++ [y]) none (some (-1)) = xs := by
  have e : HT.sIx (xs.length + 1) (xs.length + 1) (some (-1)) = xs.length := by
    unfold HT.sIx; simp; omega
  unfold cutD; simp only [List.length_append, List.length_cons, List.length_nil, Nat.zero_add, HT.sIx_none, List.drop_zero, Nat.sub_zero, e, List.take_left]
theorem cut_m1r (xs : List D) (y : D) : cutD (xs ++ [y]) (some (-1)) none = [y] := by
  have e : HT.sIx (xs.length + 1) 0 (some (-1)) = xs.length := by
    unfold HT.sIx; simp; omega
  unfold cutD; simp only [List.length_append, List.length_cons, List.length_nil, Nat.zero_add, HT.sIx_none, e, List.drop_left, Nat.add_sub_cancel_left]; rfl
section
variable {h : Hh} {m n : Nat}
theorem turned_turns {xs ys : List D} {r0 r1 : Option D} (hb : A2 (fun x y => C m n_turned [x] h = .ok y h) xs ys) :
    A2 (fun x y => lcTurn (.v 2) (evE (F m) G c_turned_0) (evE (F m) G x_turned_0) [r0, r1, none] x h = .ok (some y) h) xs ys := hb.imp fun x y p => by simp [p]
mutual
theorem turned_ok {Fr : Nat} : ∀ (k : Kd) (u n : Nat), k.ok CW Fr u → k.sm → k.dep ≤ n → C (n + 2) n_turned [k.d] h = .ok k.tn.d h
  | .int, u, n, _, _, _ => by simp [C_turned, C_insides, C_with_insides, Kd.d, Kd.tn, lcLoop]
  | .free v, u, n, _, _, _ => by simp [C_turned, C_insides, C_with_insides, Kd.d, Kd.tn, lcLoop]
  | .var v, u, n, _, _, _ => by simp [C_turned, C_insides, C_with_insides, Kd.d, Kd.tn, lcLoop]
  | .un w k, u, n + 1, ho, hs, hd => by
    have ih := turned_ok k (u + w.bn) n ho.2.2 hs (by simp [Kd.dep] at hd; omega)
    have hi := insides_ok (n + 1) h (.un w k) hs
    have l := lcA (acc := []) (turned_turns (r0 := some (Kd.un w k).d) (r1 := none) (A2.cons (P := fun x y => C (n + 2) n_turned [x] h = .ok y h) ih .nil))
    cases w <;> simp only [Kd.d, Kd.ins, Un.nm] at hi l <;> simp [C_turned, C_with_insides, Kd.d, Kd.tn, hi, l]
  | .mn w ks, u, n + 1, ho, hs, hd => by
    have ih := turneds_ok ks (u + w.bn) n ho.2.2.2 hs.2 (by simp [Kd.dep] at hd; omega)
    have hi := insides_ok (n + 1) h (.mn w ks) hs
    have l := lcA (acc := []) (turned_turns (r0 := some (Kd.mn w ks).d) (r1 := none) ih)
    have hz : ks.len ≤ 16777216 := by have := hs.1; omega
    have h1 := ho.1
    cases w with
    | row => simp only [Kd.d, Kd.ins] at hi l; simp [C_turned, C_with_insides, Kd.d, Kd.tn, hi, l, hz]
    | one => simp only [Kd.d, Kd.ins] at hi l; simp [C_turned, C_with_insides, Kd.d, Kd.tn, hi, l, hz]
    | room => simp [CW] at h1
    | not b => simp [CW] at h1
    | code b => simp [CW] at h1
  | .to b ks l, u, n + 1, ho, hs, hd => by
    have ih := turneds_ok ks (u + b) n ho.2.2.1 hs.2.1 (by simp [Kd.dep] at hd; omega)
    have il := turned_ok l (u + b) n ho.2.2.2 hs.2.2 (by simp [Kd.dep] at hd; omega)
    have hi := insides_ok (n + 1) h (.to b ks l) hs
    have lp := lcA (acc := []) (turned_turns (r0 := some (Kd.to b ks l).d) (r1 := none) (ih.app (A2.cons (P := fun x y => C (n + 2) n_turned [x] h = .ok y h) il .nil)))
    have hz : ks.len + 1 ≤ 16777216 := by have := hs.1; omega
    have hz2 : ks.len ≤ 16777215 := by have := hs.1; omega
    simp only [Kd.d, Kd.ins] at hi lp
    simp [C_turned, Kd.d, Kd.tn, hi, lp, hz, hz2, cut_m1l, cut_m1r, Ks.ds]
  | .un _ _, _, 0, _, _, hd => by simp [Kd.dep] at hd
  | .mn _ _, _, 0, _, _, hd => by simp [Kd.dep] at hd
  | .to _ _ _, _, 0, _, _, hd => by simp [Kd.dep] at hd
theorem turneds_ok {Fr : Nat} : ∀ (ks : Ks) (u n : Nat), ks.ok CW Fr u → ks.sm → ks.dep ≤ n → A2 (fun x y => C (n + 2) n_turned [x] h = .ok y h) ks.ds ks.tns.ds
  | .nil, u, n, _, _, _ => .nil
  | .cons b k r, u, n, ho, hs, hd => .cons (turned_ok k u n ho.1 hs.1 (by simp [Ks.dep] at hd; omega)) (turneds_ok r u n ho.2 hs.2 (by simp [Ks.dep] at hd; omega))
end
/-! ### _law_turned -/
theorem lturned_0 {xs ys : List D} {r0 r1 r3 : Option D} (hb : A2 (fun x y => C m n__law_turned [x] h = .ok y h) xs ys) :
    A2 (fun x y => lcTurn (.v 2) (evE (F m) G c__law_turned_0) (evE (F m) G x__law_turned_0) [r0, r1, none, r3] x h = .ok (some y) h) xs ys := hb.imp fun x y p => by simp [p]
theorem lturned_1 {xs ys : List D} {r0 r1 r3 : Option D} (hb : A2 (fun x y => C m n__law_turned [x] h = .ok y h) xs ys) :
    A2 (fun x y => lcTurn (.v 2) (evE (F m) G c__law_turned_1) (evE (F m) G x__law_turned_1) [r0, r1, none, r3] x h = .ok (some y) h) xs ys := hb.imp fun x y p => by simp [p]
mutual
theorem lturned_ok {Fr : Nat} : ∀ (k : Kd) (u n : Nat), k.ok CW Fr u → k.sm → k.dep ≤ n → C (n + 1) n__law_turned [k.d] h = .ok k.tn.d h
  | .int, u, n, _, _, _ => by simp [C__law_turned, Kd.d, Kd.tn]
  | .free v, u, n, _, _, _ => by simp [C__law_turned, Kd.d, Kd.tn]
  | .var v, u, n, _, _, _ => by simp [C__law_turned, Kd.d, Kd.tn]
  | .un w k, u, n + 1, ho, hs, hd => by
    have ih := lturned_ok k (u + w.bn) n ho.2.2 hs (by simp [Kd.dep] at hd; omega)
    cases w <;> simp [C__law_turned, Kd.d, Kd.tn, ih]
  | .mn w ks, u, n + 1, ho, hs, hd => by
    have ih := lturneds_ok ks (u + w.bn) n ho.2.2.2 hs.2 (by simp [Kd.dep] at hd; omega)
    have l := fun r1 => lcA (acc := []) (lturned_0 (r0 := some (Kd.mn w ks).d) (r1 := r1) (r3 := none) ih)
    have hz : ks.len ≤ 16777216 := by have := hs.1; omega
    have h1 := ho.1
    cases w with
    | row => simp only [Kd.d] at l; simp [C__law_turned, Kd.d, Kd.tn, l, hz]
    | one => simp only [Kd.d] at l; simp [C__law_turned, Kd.d, Kd.tn, l, hz]
    | room => simp [CW] at h1
    | not b => simp [CW] at h1
    | code b => simp [CW] at h1
  | .to b ks l, u, n + 1, ho, hs, hd => by
    have ih := lturneds_ok ks (u + b) n ho.2.2.1 hs.2.1 (by simp [Kd.dep] at hd; omega)
    have il := lturned_ok l (u + b) n ho.2.2.2 hs.2.2 (by simp [Kd.dep] at hd; omega)
    have lp := fun r1 r3 => lcA (acc := []) (lturned_1 (r0 := some (Kd.to b ks l).d) (r1 := r1) (r3 := r3) ih)
    have hz : ks.len + 1 ≤ 16777216 := by have := hs.1; omega
    have hz2 : ks.len ≤ 16777215 := by have := hs.1; omega
    have hz3 : ks.len ≤ 16777216 := by have := hs.1; omega
    simp only [Kd.d] at lp
    simp [C__law_turned, Kd.d, Kd.tn, lp, il, hz, hz2, hz3, Ks.ds]
  | .un _ _, _, 0, _, _, hd => by simp [Kd.dep] at hd
  | .mn _ _, _, 0, _, _, hd => by simp [Kd.dep] at hd
  | .to _ _ _, _, 0, _, _, hd => by simp [Kd.dep] at hd
theorem lturneds_ok {Fr : Nat} : ∀ (ks : Ks) (u n : Nat), ks.ok CW Fr u → ks.sm → ks.dep ≤ n → A2 (fun x y => C (n + 1) n__law_turned [x] h = .ok y h) ks.ds ks.tns.ds
  | .nil, u, n, _, _, _ => .nil
  | .cons b k r, u, n, ho, hs, hd => .cons (lturned_ok k u n ho.1 hs.1 (by simp [Ks.dep] at hd; omega)) (lturneds_ok r u n ho.2 hs.2 (by simp [Ks.dep] at hd; omega))
end
end
end K22
end

section
set_option maxRecDepth 100000
namespace K22
open PySem PV Kn
def EL : Nat := 10 ^ 91
theorem EL_int : ((EL : Nat) : Int) = 10000000000000000000000000000000000000000000000000000000000000000000000000000000000000000000 := by decide +kernel
theorem cw_ok : ∀ x ∈ CW, PyData.strOk x = true := by simp [CW]
section
variable {h : Hh} {m n : Nat}
theorem is_kind_ok (N : Nat) {d : D} {dp : Nat} (hd : PN dp d) (h64 : dp ≤ 64) (hN : dp ≤ N) : C (N + 5) n_is_kind [.int 10000000000000000000000000000000000000000000000000000000000000000000000000000000000000000000, d, .tup [.str "cell", .str "int", .str "one", .str "rec", .str "row", .str "some", .str "to"]] h = .ok (.bl (isK CW (EL : Int) (dp + 1) 0 d)) h := by
  have e := isk_ok (h := h) (f := (EL : Int)) cw_ok (by simp [CW]) dp N 0 d h64 hN hd
  have w : wds CW = [.str "cell", .str "int", .str "one", .str "rec", .str "row", .str "some", .str "to"] := rfl
  rw [EL_int, w] at e
  rw [EL_int]
  generalize isK CW _ (dp + 1) 0 d = r at e ⊢
  simp [C_is_kind, e]
theorem carried_ok {k : Kd} {Fr dp : Nat} (c : Ck Fr 0 dp k) (hf : Fr ≤ EL) (hd : 3 * dp + 1 ≤ 64) (N : Nat) (hN : 3 * dp + 1 ≤ N) : C (N + 6) n_carried [k.d] h = .ok k.tn.d h := by
  have p := kd_pn c.ok c.sm c.dep
  have e := is_kind_ok (h := h) N p hd hN
  have t : isK CW (EL : Int) (3 * dp + 1 + 1) ((0 : Nat) : Int) k.d = true := isK_kd k 0 _ (ok_le k c.ok hf (Nat.le_refl _)) (by have := c.dep; omega)
  simp only [Int.natCast_zero] at t
  rw [t] at e
  have e2 := turned_ok (h := h) k 0 (N + 3) c.ok c.sm (by have := c.dep; omega)
  simp [C_carried, e, e2]
theorem refused_ok {d : D} {dp : Nat} (hd : PN dp d) (h64 : dp ≤ 64) (N : Nat) (hN : dp ≤ N) (hk : isK CW (EL : Int) (dp + 1) 0 d = false) : C (N + 7) n__law_is_refused [d] h = .ok (.bl true) h := by
  have e := is_kind_ok (h := h) N hd h64 hN
  rw [hk] at e
  have e2 : C (N + 6) n_carried [d] h = .err ⟨"InvalidKind", .non⟩ h := by simp [C_carried, e]
  simp [C__law_is_refused, e2]
/-! ### _law_opened -/
variable {ss : List Kd}
theorem lop_0 {xs ys : List D} {u : Int} {r0 r3 r5 : Option D} (hb : A2 (fun x y => C m n__law_opened [x, .tup (kds ss), .int u] h = .ok y h) xs ys) :
    A2 (fun x y => lcTurn (.v 4) (evE (F m) G c__law_opened_0) (evE (F m) G x__law_opened_0) [r0, some (.tup (kds ss)), some (.int u), r3, none, r5] x h = .ok (some y) h) xs ys := hb.imp fun x y p => by simp [p]
theorem lop_1 {xs ys xr : List D} {u b : Int} {w : Str} {r3 r5 : Option D} (hb : A2 (fun x y => C m n__law_opened [x, .tup (kds ss), .int (u + b)] h = .ok y h) xs ys) :
    A2 (fun x y => lcTurn (.v 4) (evE (F m) G c__law_opened_1) (evE (F m) G x__law_opened_1) [some (.tup (.str w :: .int b :: xr)), some (.tup (kds ss)), some (.int u), r3, none, r5] x h = .ok (some y) h) xs ys := hb.imp fun x y p => by simp [p]
theorem lop_2 {xs ys xr : List D} {u b : Int} {w : Str} {r3 r5 : Option D} (hb : A2 (fun x y => C m n__law_opened [x, .tup (kds ss), .int (u + b)] h = .ok y h) xs ys) :
    A2 (fun x y => lcTurn (.v 4) (evE (F m) G c__law_opened_2) (evE (F m) G x__law_opened_2) [some (.tup (.str w :: .int b :: xr)), some (.tup (kds ss)), some (.int u), r3, none, r5] x h = .ok (some y) h) xs ys := hb.imp fun x y p => by simp [p]
theorem lop_var (m v u : Nat) : C (m + 1) n__law_opened [(Kd.var v).d, .tup (kds ss), .int u] h = .ok (putG ss u false v).d h := by
  unfold putG
  by_cases hu : v < u
  · simp [C__law_opened, Kd.d, hu]
  · by_cases hc : v - u < ss.length
    · have e2 : (v : Int) < (u : Int) + (ss.length : Int) := by omega
      have e3 := kds_at hc
      rw [← sub_nat (by omega)] at e3
      simp [C__law_opened, Kd.d, hu, e2, e3, hc]
    · have e2 : ¬ (v : Int) < (u : Int) + (ss.length : Int) := by omega
      have e3 : (v : Int) - (ss.length : Int) = ((v - ss.length : Nat) : Int) := sub_nat (by omega)
      have e4 : ss[v - u]? = none := List.getElem?_eq_none (by omega)
      simp [C__law_opened, Kd.d, hu, e2, e4, e3]
mutual
theorem lop_ok : ∀ (k : Kd) (u n : Nat), k.nr → k.sm → k.dep ≤ n → C (n + 1) n__law_opened [k.d, .tup (kds ss), .int u] h = .ok (k.tr (putG ss) u).d h
  | .int, u, n, _, _, _ => by simp [C__law_opened, Kd.d, Kd.tr]
  | .free v, u, n, _, _, _ => by simp [C__law_opened, Kd.d, Kd.tr, putG]
  | .var v, u, n, _, _, _ => lop_var n v u
  | .un w k, u, n + 1, ho, hs, hd => by
    have ih := lop_ok k (u + w.bn) n ho hs (by simp [Kd.dep] at hd; omega)
    cases w <;> simp only [Un.bn, Int.natCast_add, Int.natCast_one, Nat.add_zero] at ih <;> simp [C__law_opened, Kd.d, Kd.tr, ih]
  | .mn w ks, u, n + 1, ho, hs, hd => by
    have hz : ks.len ≤ 16777216 := by have := hs.1; omega
    cases w with
    | row =>
      have ih := lops_ok ks u n ho hs.2 (by simp [Kd.dep] at hd; omega)
      have l := fun r3 r5 => lcA (acc := []) (lop_0 (r0 := some (Kd.mn .row ks).d) (r3 := r3) (r5 := r5) ih)
      simp only [Kd.d] at l; simp [C__law_opened, Kd.d, Kd.tr, l, hz]
    | one =>
      have ih := lops_ok ks u n ho hs.2 (by simp [Kd.dep] at hd; omega)
      have l := fun r3 r5 => lcA (acc := []) (lop_0 (r0 := some (Kd.mn .one ks).d) (r3 := r3) (r5 := r5) ih)
      simp only [Kd.d] at l; simp [C__law_opened, Kd.d, Kd.tr, l, hz]
    | room => exact ho.elim
    | code b => exact ho.elim
    | not b =>
      have ih := lops_ok ks (u + b) n ho hs.2 (by simp [Kd.dep] at hd; omega)
      simp only [Int.natCast_add] at ih
      have l := fun r3 r5 => lcA (acc := []) (lop_1 (w := "not") (xr := [.tup ks.ds]) (r3 := r3) (r5 := r5) ih)
      simp [C__law_opened, Kd.d, Kd.tr, l, hz]
  | .to b ks l, u, n + 1, ho, hs, hd => by
    have hz : ks.len ≤ 16777216 := by have := hs.1; omega
    have ih := lops_ok ks (u + b) n ho.1 hs.2.1 (by simp [Kd.dep] at hd; omega)
    have il := lop_ok l (u + b) n ho.2 hs.2.2 (by simp [Kd.dep] at hd; omega)
    simp only [Int.natCast_add] at ih il
    have lp := fun r3 r5 => lcA (acc := []) (lop_2 (w := "to") (xr := [.tup ks.ds, l.d]) (r3 := r3) (r5 := r5) ih)
    simp [C__law_opened, Kd.d, Kd.tr, lp, il, hz]
  | .un _ _, _, 0, _, _, hd => by simp [Kd.dep] at hd
  | .mn _ _, _, 0, _, _, hd => by simp [Kd.dep] at hd
  | .to _ _ _, _, 0, _, _, hd => by simp [Kd.dep] at hd
theorem lops_ok : ∀ (ks : Ks) (u n : Nat), ks.nr → ks.sm → ks.dep ≤ n → A2 (fun x y => C (n + 1) n__law_opened [x, .tup (kds ss), .int u] h = .ok y h) ks.ds (ks.tr (putG ss) u).ds
  | .nil, u, n, _, _, _ => .nil
  | .cons b k r, u, n, ho, hs, hd => .cons (lop_ok k u n ho.1 hs.1 (by simp [Ks.dep] at hd; omega)) (lops_ok r u n ho.2 hs.2 (by simp [Ks.dep] at hd; omega))
end
/-! ### _law_filled -/
theorem lfi_0 {xs ys : List D} {r0 r2 : Option D} (hb : A2 (fun x y => C m n__law_filled [x, .tup (kds ss)] h = .ok y h) xs ys) :
    A2 (fun x y => lcTurn (.v 3) (evE (F m) G c__law_filled_0) (evE (F m) G x__law_filled_0) [r0, some (.tup (kds ss)), r2, none] x h = .ok (some y) h) xs ys := hb.imp fun x y p => by simp [p]
theorem lfi_2 {xs ys : List D} {r0 r2 : Option D} (hb : A2 (fun x y => C m n__law_filled [x, .tup (kds ss)] h = .ok y h) xs ys) :
    A2 (fun x y => lcTurn (.v 3) (evE (F m) G c__law_filled_2) (evE (F m) G x__law_filled_2) [r0, some (.tup (kds ss)), r2, none] x h = .ok (some y) h) xs ys := hb.imp fun x y p => by simp [p]
mutual
theorem lfi_ok : ∀ (k : Kd) (u n : Nat), k.ok CW ss.length u → k.sm → k.dep ≤ n → C (n + 1) n__law_filled [k.d, .tup (kds ss)] h = .ok (k.tr (fillG ss) u).d h
  | .int, u, n, _, _, _ => by simp [C__law_filled, Kd.d, Kd.tr]
  | .free v, u, n, ho, _, _ => by
    have hw : v < ss.length := ho
    simp [C__law_filled, Kd.d, kds_at hw, Kd.tr, fillG, hw]
  | .var v, u, n, _, _, _ => by simp [C__law_filled, Kd.d, Kd.tr, fillG]
  | .un w k, u, n + 1, ho, hs, hd => by
    have ih := lfi_ok k (u + w.bn) n ho.2.2 hs (by simp [Kd.dep] at hd; omega)
    cases w <;> simp only [Un.bn, Nat.add_zero] at ih <;> simp [C__law_filled, Kd.d, Kd.tr, ih]
  | .mn w ks, u, n + 1, ho, hs, hd => by
    have hz : ks.len ≤ 16777216 := by have := hs.1; omega
    have h1 := ho.1
    have ih := lfis_ok ks (u + w.bn) n ho.2.2.2 hs.2 (by simp [Kd.dep] at hd; omega)
    have l := fun r2 => lcA (acc := []) (lfi_0 (r0 := some (Kd.mn w ks).d) (r2 := r2) ih)
    cases w with
    | row => simp only [Kd.d] at l; simp [C__law_filled, Kd.d, Kd.tr, l, hz]
    | one => simp only [Kd.d] at l; simp [C__law_filled, Kd.d, Kd.tr, l, hz]
    | room => simp [CW] at h1
    | not b => simp [CW] at h1
    | code b => simp [CW] at h1
  | .to b ks l, u, n + 1, ho, hs, hd => by
    have hz : ks.len ≤ 16777216 := by have := hs.1; omega
    have ih := lfis_ok ks (u + b) n ho.2.2.1 hs.2.1 (by simp [Kd.dep] at hd; omega)
    have il := lfi_ok l (u + b) n ho.2.2.2 hs.2.2 (by simp [Kd.dep] at hd; omega)
    have lp := fun r2 => lcA (acc := []) (lfi_2 (r0 := some (Kd.to b ks l).d) (r2 := r2) ih)
    simp only [Kd.d] at lp
    simp [C__law_filled, Kd.d, Kd.tr, lp, il, hz]
  | .un _ _, _, 0, _, _, hd => by simp [Kd.dep] at hd
  | .mn _ _, _, 0, _, _, hd => by simp [Kd.dep] at hd
  | .to _ _ _, _, 0, _, _, hd => by simp [Kd.dep] at hd
theorem lfis_ok : ∀ (ks : Ks) (u n : Nat), ks.ok CW ss.length u → ks.sm → ks.dep ≤ n → A2 (fun x y => C (n + 1) n__law_filled [x, .tup (kds ss)] h = .ok y h) ks.ds (ks.tr (fillG ss) u).ds
  | .nil, u, n, _, _, _ => .nil
  | .cons b k r, u, n, ho, hs, hd => .cons (lfi_ok k u n ho.1 hs.1 (by simp [Ks.dep] at hd; omega)) (lfis_ok r u n ho.2 hs.2 (by simp [Ks.dep] at hd; omega))
end
end
end K22
end

section
set_option maxRecDepth 100000
namespace K22
open PySem PV Kn
/-- a well and what stood before it -/
def Cup (pre : Hh) (a b c : Int) : Hh := pre ++ [.lst [.int a, .int b, .int c]]
structure CupOk (a b c : Int) : Prop where
  a0 : 0 ≤ a
  b0 : 0 ≤ b
  b1 : b < 2147483648
  c0 : 0 ≤ c
def Inv (pre : Hh) (h : Hh) : Prop := ∃ a b c, h = Cup pre a b c ∧ CupOk a b c
theorem cup_at (pre : Hh) (a b c : Int) : (Cup pre a b c)[pre.length]? = some (.lst [.int a, .int b, .int c]) := by simp [Cup]
section
variable {pre : Hh} {a b c : Int} {k : Nat} {h : Hh}
theorem cup_0 : opIdx (Cup pre a b c) (.ref pre.length) (.int 0) = some (.int a) := by simp only [opIdx, cup_at]; simp
theorem cup_1 : opIdx (Cup pre a b c) (.ref pre.length) (.int 1) = some (.int b) := by simp only [opIdx, cup_at]; simp
theorem cup_2 : opIdx (Cup pre a b c) (.ref pre.length) (.int 2) = some (.int c) := by simp only [opIdx, cup_at]; simp
theorem sto_0 (x : Int) : stoOp (.ref pre.length) (.int 0) (.int x) (Cup pre a b c) = some (Cup pre x b c) := by
  simp only [stoOp, cup_at]
  have : L2.ixN [D.int a, D.int b, D.int c].length 0 = some 0 := rfl
  rw [this]
  simp [Cup]
theorem sto_1 (x : Int) : stoOp (.ref pre.length) (.int 1) (.int x) (Cup pre a b c) = some (Cup pre a x c) := by
  simp only [stoOp, cup_at]
  have : L2.ixN [D.int a, D.int b, D.int c].length 1 = some 1 := rfl
  rw [this]
  simp [Cup]
theorem sto_2 (x : Int) : stoOp (.ref pre.length) (.int 2) (.int x) (Cup pre a b c) = some (Cup pre a b x) := by
  simp only [stoOp, cup_at]
  have : L2.ixN [D.int a, D.int b, D.int c].length 2 = some 2 := rfl
  rw [this]
  simp [Cup]
theorem h64 : (2 : Int) ^ 64 = 18446744073709551616 := by decide +kernel
theorem mulOk_l {i j : Int} (h0 : 0 ≤ i) (h1 : i < 18446744073709551616) : mulOk i j = true := by
  unfold mulOk
  rw [h64]
  have : decide (-18446744073709551616 < i ∧ i < 18446744073709551616) = true := decide_eq_true (by omega)
  rw [this]; simp
theorem mulOk_r {i j : Int} (h0 : 0 ≤ j) (h1 : j < 18446744073709551616) : mulOk i j = true := by
  unfold mulOk
  rw [h64]
  have : decide (-18446744073709551616 < j ∧ j < 18446744073709551616) = true := decide_eq_true (by omega)
  rw [this]; simp
theorem bin_mul {h : Hh} {i j : Int} (m : mulOk i j = true) : opBin .mul h (.int i) (.int j) = some (.int (i * j)) := by
  show (if mulOk i j then some (D.int (i * j)) else none) = _
  rw [if_pos m]
theorem bin_mod {h : Hh} {i j : Int} (m : 0 < j) : opBin .mod h (.int i) (.int j) = some (.int (i % j)) := by
  show (if 0 < j then some (D.int (i % j)) else none) = _
  rw [if_pos m]
theorem bin_fdiv {h : Hh} {i j : Int} (m : 0 < j) (m2 : j.natAbs.log2 < 9000) : opBin .fdiv h (.int i) (.int j) = some (.int (i / j)) := by
  show (if 0 < j ∧ j.natAbs.log2 < 9000 then some (D.int (i / j)) else none) = _
  rw [if_pos ⟨m, m2⟩]
theorem pow18 : opBin .pow h (.int 10) (.int 18) = some (.int 1000000000000000000) := by
  show (if powOk 10 18 then some (D.int (10 ^ (18 : Int).toNat)) else none) = _
  have : powOk 10 18 = true := by decide +kernel
  rw [if_pos this]; rfl
theorem pow60 : opBin .pow h (.int 10) (.int 60) = some (.int 1000000000000000000000000000000000000000000000000000000000000) := by
  show (if powOk 10 60 then some (D.int (10 ^ (60 : Int).toNat)) else none) = _
  have : powOk 10 60 = true := by decide +kernel
  rw [if_pos this]
  have : (10 : Int) ^ (60 : Int).toNat = 1000000000000000000000000000000000000000000000000000000000000 := by decide +kernel
  rw [this]
theorem draw_ok (i : Inv pre h) {many : Int} (h0 : 0 < many) (h1 : many.natAbs.log2 < 9000) :
    ∃ v h', C (k + 1) n__law_draw [.ref pre.length, .int many] h = .ok (.int v) h' ∧ 0 ≤ v ∧ v < many ∧ Inv pre h' := by
  obtain ⟨a, b, c, rfl, ok⟩ := i
  have m1 : mulOk b 16807 = true := mulOk_r (by omega) (by omega)
  have m2 : mulOk (c + 1) 127 = true := mulOk_r (by omega) (by omega)
  generalize hx : (b * 16807 + (c + 1) * 127 + 3) % 2147483489 = x
  have x0 : 0 ≤ x := by rw [← hx]; exact Int.emod_nonneg _ (by omega)
  have x1 : x < 2147483489 := by rw [← hx]; exact Int.emod_lt_of_pos _ (by omega)
  have d1 : ∀ (h : Hh) (i : Int), opBin .fdiv h (.int i) (.int 53) = some (.int (i / 53)) := fun h i => bin_fdiv (by omega) (by decide)
  have d2 : ∀ (h : Hh) (i : Int), opBin .fdiv h (.int i) (.int 7919) = some (.int (i / 7919)) := fun h i => bin_fdiv (by omega) (by decide)
  by_cases ha : 0 < a
  · refine ⟨a % many, Cup pre (a / many) x (c + 1), ?_, Int.emod_nonneg _ (by omega), Int.emod_lt_of_pos _ h0, _, _, _, rfl, ⟨Int.ediv_nonneg ok.a0 (by omega), x0, by omega, by have := ok.c0; omega⟩⟩
    simp [C__law_draw, cup_0, cup_1, cup_2, ha, bin_mod h0, bin_mod, bin_fdiv h0 h1, sto_0, sto_1, sto_2, bin_mul m1, bin_mul m2, hx]
  · have m3 : mulOk x (x / 53 + 19) = true := mulOk_l x0 (by omega)
    refine ⟨x * (x / 53 + 19) / 7919 % many, Cup pre a x (c + 1), ?_, Int.emod_nonneg _ (by omega), Int.emod_lt_of_pos _ h0, _, _, _, rfl, ⟨ok.a0, x0, by omega, by have := ok.c0; omega⟩⟩
    simp [C__law_draw, cup_0, cup_1, cup_2, ha, bin_mod h0, bin_mod, d1, d2, sto_0, sto_1, sto_2, bin_mul m1, bin_mul m2, bin_mul m3, hx]
theorem log_small {n : Int} (h0 : 0 ≤ n) (h1 : n < 1073741824) : n.natAbs.log2 < 9000 := by
  have : n.natAbs < 2 ^ 30 := by omega
  by_cases hz : n.natAbs = 0
  · rw [hz]; decide
  · have := (Nat.log2_lt hz).mpr this
    omega
theorem draw_s (i : Inv pre h) {many : Int} (h0 : 0 < many) (h1 : many < 1073741824) :
    ∃ v h', C (k + 1) n__law_draw [.ref pre.length, .int many] h = .ok (.int v) h' ∧ 0 ≤ v ∧ v < many ∧ Inv pre h' := draw_ok i h0 (log_small (by omega) h1)
theorem abs_ok (i : Int) : opBf .abs h [.int i] = some (.int (if i < 0 then -i else i)) := rfl
theorem max2_ok (i j : Int) : opBf .max2 h [.int i, .int j] = some (.int (if j > i then j else i)) := rfl
theorem well_ok (x : Int) : ∃ h', C (k + 1) n__law_well [.int x] h = .ok (.ref h.length) h' ∧ Inv h h' := by
  have m1 : mulOk x 7129 = true := mulOk_r (by omega) (by omega)
  have x0 : 0 ≤ (x * 7129 + 60013) % 2147483489 := Int.emod_nonneg _ (by omega)
  have x1 : (x * 7129 + 60013) % 2147483489 < 2147483489 := Int.emod_lt_of_pos _ (by omega)
  generalize hy : (if x < 0 then -x else x) = y
  generalize hz : (if y - 1000000000000000000 > 0 then y - 1000000000000000000 else 0) = z
  have z0 : 0 ≤ z := by rw [← hz]; split <;> omega
  have ea := abs_ok (h := h) x
  have em := max2_ok (h := h) 0 (y - 1000000000000000000)
  rw [hy] at ea
  rw [hz] at em
  refine ⟨Cup h z ((x * 7129 + 60013) % 2147483489) 0, ?_, _, _, _, rfl, ⟨z0, x0, by omega, by omega⟩⟩
  simp -implicitDefEqProofs [C__law_well, pow18, ea, em, bin_mod, bin_mul m1, PV.newObj, Cup]
end
end K22
end

section
set_option maxRecDepth 100000
namespace K22
open PySem PV Kn
def KSpec (deep k : Nat) : Prop := ∀ (pre h : Hh) (u : Nat), u + 3 * deep ≤ 1000 → Inv pre h →
  ∃ (kd : Kd) (h' : Hh), C k n__law_kind [.ref pre.length, .int (u : Int), .int (deep : Int)] h = .ok kd.d h' ∧ Inv pre h' ∧ Ck 5 u (2 * deep) kd
theorem rngD_get (n k : Nat) : (rngD 0 (n : Int))[k]? = if k < n then some (.int (k : Int)) else none := by
  unfold rngD
  rw [List.getElem?_map]
  simp only [Int.sub_zero, Int.toNat_natCast]
  split
  · rename_i hk; rw [List.getElem?_range hk]; simp
  · rename_i hk; rw [List.getElem?_eq_none (by simp; omega)]; rfl
section
variable {pre h : Hh} {d fu : Nat}
theorem sub1 (d : Nat) : (((d + 1 : Nat) : Int) - 1) = (d : Int) := by omega
theorem loop_0 {u : Nat} (hu : u + 3 * d ≤ 1000) (ih : KSpec d (fu + 1)) (i : Inv pre h) (xs : List D) (r3 r4 r5 r6 : Option D) :
    ∃ (zs : List Kd) (h' : Hh), lcLoop (fun _ => true) (lcTurn (.v 4) (evE (F (fu + 1)) G c__law_kind_0) (evE (F (fu + 1)) G x__law_kind_0) [some (.ref pre.length), some (.int u), some (.int ((d : Int) + 1)), r3, r4, r5, r6]) xs [] h = .ok (.lst (zs.map Kd.d)) h' ∧ zs.length = xs.length ∧ (∀ z ∈ zs, Ck 5 u (2 * d) z) ∧ Inv pre h' := by
  obtain ⟨zs, h', e, l, q, i'⟩ := lcS (Inv := Inv pre) (turn := lcTurn (.v 4) (evE (F (fu + 1)) G c__law_kind_0) (evE (F (fu + 1)) G x__law_kind_0) [some (.ref pre.length), some (.int u), some (.int ((d : Int) + 1)), r3, r4, r5, r6]) Kd.d (Ck 5 u (2 * d)) (xs := xs) (acc := []) i (by
    intro x _ h i
    obtain ⟨kd, h', e, i', g⟩ := ih pre h u hu i
    exact ⟨kd, _, by simp [e], g, i'⟩)
  exact ⟨zs, h', e, l, q, i'⟩
theorem loop_1 {u : Nat} (hu : u + 3 * d ≤ 1000) (ih : KSpec d (fu + 1)) (i : Inv pre h) (xs : List D) (r3 r4 r5 r6 : Option D) :
    ∃ (zs : List Kd) (h' : Hh), lcLoop (fun _ => true) (lcTurn (.v 4) (evE (F (fu + 1)) G c__law_kind_1) (evE (F (fu + 1)) G x__law_kind_1) [some (.ref pre.length), some (.int u), some (.int ((d : Int) + 1)), r3, r4, r5, r6]) xs [] h = .ok (.lst (zs.map Kd.d)) h' ∧ zs.length = xs.length ∧ (∀ z ∈ zs, Ck 5 u (2 * d) z) ∧ Inv pre h' := by
  obtain ⟨zs, h', e, l, q, i'⟩ := lcS (Inv := Inv pre) (turn := lcTurn (.v 4) (evE (F (fu + 1)) G c__law_kind_1) (evE (F (fu + 1)) G x__law_kind_1) [some (.ref pre.length), some (.int u), some (.int ((d : Int) + 1)), r3, r4, r5, r6]) Kd.d (Ck 5 u (2 * d)) (xs := xs) (acc := []) i (by
    intro x _ h i
    obtain ⟨kd, h', e, i', g⟩ := ih pre h u hu i
    exact ⟨kd, _, by simp [e], g, i'⟩)
  exact ⟨zs, h', e, l, q, i'⟩
theorem loop_2 {u m : Nat} (hu : u + m + 3 * d ≤ 1000) (ih : KSpec d (fu + 1)) (i : Inv pre h) (xs : List D) (r3 r4 r6 : Option D) :
    ∃ (zs : List Kd) (h' : Hh), lcLoop (fun _ => true) (lcTurn (.v 4) (evE (F (fu + 1)) G c__law_kind_2) (evE (F (fu + 1)) G x__law_kind_2) [some (.ref pre.length), some (.int u), some (.int ((d : Int) + 1)), r3, r4, some (.int m), r6]) xs [] h = .ok (.lst (zs.map Kd.d)) h' ∧ zs.length = xs.length ∧ (∀ z ∈ zs, Ck 5 (u + m) (2 * d) z) ∧ Inv pre h' := by
  obtain ⟨zs, h', e, l, q, i'⟩ := lcS (Inv := Inv pre) (turn := lcTurn (.v 4) (evE (F (fu + 1)) G c__law_kind_2) (evE (F (fu + 1)) G x__law_kind_2) [some (.ref pre.length), some (.int u), some (.int ((d : Int) + 1)), r3, r4, some (.int m), r6]) Kd.d (Ck 5 (u + m) (2 * d)) (xs := xs) (acc := []) i (by
    intro x _ h i
    obtain ⟨kd, h', e, i', g⟩ := ih pre h (u + m) hu i
    simp only [Int.natCast_add] at e
    exact ⟨kd, _, by simp [e], g, i'⟩)
  exact ⟨zs, h', e, l, q, i'⟩
theorem many_ok {v : Int} (h0 : 0 ≤ v) (h1 : v < 5) : ∃ m : Nat, m ≤ 3 ∧ L2.atI [D.int 0, .int 0, .int 1, .int 2, .int 3] v = some (.int (m : Int)) := by
  have : v = 0 ∨ v = 1 ∨ v = 2 ∨ v = 3 ∨ v = 4 := by omega
  rcases this with rfl | rfl | rfl | rfl | rfl
  · exact ⟨0, by omega, rfl⟩
  · exact ⟨0, by omega, rfl⟩
  · exact ⟨1, by omega, rfl⟩
  · exact ⟨2, by omega, rfl⟩
  · exact ⟨3, by omega, rfl⟩
def b_kt : Ss := match b__law_kind with
  | .cons _ t => t
  | _ => .nil
theorem b_kt_eq : b__law_kind = .cons (.asg 3 (.ite (.cmp .gt (.var 2) (.con (.int 0))) (.call 19 (.cons (.var 0) (.cons (.con (.int 11)) .nil))) (.call 19 (.cons (.var 0) (.cons (.con (.int 3)) .nil))))) b_kt := rfl
abbrev Ke (pre : Hh) (u dp way : Int) : PV.Env := [some (.ref pre.length), some (.int u), some (.int dp), some (.int way), none, none, none]
/-- the ends that every depth has -/
theorem tail_leaf (i : Inv pre h) (u : Nat) (dp : Int) (hu : u ≤ 1000) {way : Int} (hw : way = 0 ∨ way = 1 ∨ way = 2) :
    ∃ (kd : Kd) (h' : Hh), finR false (pre.length + 1) (evSs (F (fu + 1)) G b_kt (Ke pre u dp way) h) = .ok kd.d h' ∧ Inv pre h' ∧ Ck 5 u 0 kd := by
  rcases hw with rfl | rfl | rfl
  · exact ⟨.int, h, by simp -implicitDefEqProofs [b_kt, Kd.d], i, by show Str.ofString "int" ∈ CW; simp [CW], trivial, Nat.le_refl _⟩
  · by_cases hu0 : 0 < u
    · obtain ⟨v, h', e, v0, v1, i'⟩ := draw_s (k := fu) i (many := (u : Int)) (by omega) (by omega)
      obtain ⟨n, rfl⟩ : ∃ n : Nat, v = (n : Int) := ⟨v.toNat, by omega⟩
      have hz : ¬ u = 0 := by omega
      exact ⟨.var n, h', by simp -implicitDefEqProofs [b_kt, Kd.d, e, hz], i', by show n < u; omega, trivial, Nat.le_refl _⟩
    · have hz : u = 0 := by omega
      subst hz
      exact ⟨.int, h, by simp -implicitDefEqProofs [b_kt, Kd.d], i, by show Str.ofString "int" ∈ CW; simp [CW], trivial, Nat.le_refl _⟩
  · obtain ⟨v, h', e, v0, v1, i'⟩ := draw_s (k := fu) i (many := 5) (by omega) (by omega)
    obtain ⟨n, rfl⟩ : ∃ n : Nat, v = (n : Int) := ⟨v.toNat, by omega⟩
    exact ⟨.free n, h', by simp -implicitDefEqProofs [b_kt, Kd.d, e], i', by show n < 5; omega, trivial, Nat.le_refl _⟩
theorem tail_row (i : Inv pre h) (ih : KSpec d (fu + 1)) (u : Nat) (hu : u + 3 * (d + 1) ≤ 1000) {way : Int} (hw : way = 3 ∨ way = 4) :
    ∃ (kd : Kd) (h' : Hh), finR false (pre.length + 1) (evSs (F (fu + 1)) G b_kt (Ke pre u ((d : Int) + 1) way) h) = .ok kd.d h' ∧ Inv pre h' ∧ Ck 5 u (2 * (d + 1)) kd := by
  obtain ⟨v, h1, e1, v0, v1, i1⟩ := draw_s (k := fu) i (many := 4) (by omega) (by omega)
  obtain ⟨zs, h2, e2, l2, q2, i2⟩ := loop_0 (u := u) (by omega) ih i1 (rngD 0 v) (some (.int way)) none none none
  have hr : rngOk 0 v = true := rng_ok (by omega) (by omega)
  have hz : (rngD 0 v).length ≤ 16777216 := by rw [rngD_len]; omega
  have g := of_ck q2
  refine ⟨.mn .row (Ks.of zs), h2, ?_, i2, ⟨by simp [CW], Nat.zero_le _, trivial, g.ok⟩, ⟨by rw [of_len, l2, rngD_len]; omega, g.tw⟩, ?_⟩
  · rcases hw with rfl | rfl <;> simp -implicitDefEqProofs [b_kt, Kd.d, e1, hr, hz, e2, of_ds]
  · have := g.dep; simp only [Kd.dep]; omega
theorem tail_one (i : Inv pre h) (ih : KSpec d (fu + 1)) (u : Nat) (hu : u + 3 * (d + 1) ≤ 1000) :
    ∃ (kd : Kd) (h' : Hh), finR false (pre.length + 1) (evSs (F (fu + 1)) G b_kt (Ke pre u ((d : Int) + 1) 5) h) = .ok kd.d h' ∧ Inv pre h' ∧ Ck 5 u (2 * (d + 1)) kd := by
  obtain ⟨v, h1, e1, v0, v1, i1⟩ := draw_s (k := fu) i (many := 3) (by omega) (by omega)
  obtain ⟨zs, h2, e2, l2, q2, i2⟩ := loop_1 (u := u) (by omega) ih i1 (rngD 0 (1 + v)) (some (.int 5)) none none none
  have hr : rngOk 0 (1 + v) = true := rng_ok (by omega) (by omega)
  have hz : (rngD 0 (1 + v)).length ≤ 16777216 := by rw [rngD_len]; omega
  have g := of_ck q2
  refine ⟨.mn .one (Ks.of zs), h2, by simp -implicitDefEqProofs [b_kt, Kd.d, e1, hr, hz, e2, of_ds], i2, ⟨by simp [CW], Nat.zero_le _, by show 0 < (Ks.of zs).len; rw [of_len, l2, rngD_len]; omega, g.ok⟩, ⟨by rw [of_len, l2, rngD_len]; omega, g.tw⟩, ?_⟩
  have := g.dep; simp only [Kd.dep]; omega
theorem tail_cell (i : Inv pre h) (ih : KSpec d (fu + 1)) (u : Nat) (hu : u + 3 * (d + 1) ≤ 1000) :
    ∃ (kd : Kd) (h' : Hh), finR false (pre.length + 1) (evSs (F (fu + 1)) G b_kt (Ke pre u ((d : Int) + 1) 6) h) = .ok kd.d h' ∧ Inv pre h' ∧ Ck 5 u (2 * (d + 1)) kd := by
  obtain ⟨kd, h1, e1, i1, g⟩ := ih pre h u (by omega) i
  refine ⟨.un .cel kd, h1, by simp -implicitDefEqProofs [b_kt, Kd.d, e1], i1, ⟨by simp [CW], (fun q => by cases q), g.ok⟩, g.tw, ?_⟩
  have := g.dep; simp only [Kd.dep]; omega
theorem tail_some (i : Inv pre h) (ih : KSpec d (fu + 1)) (u : Nat) (hu : u + 3 * (d + 1) ≤ 1000) :
    ∃ (kd : Kd) (h' : Hh), finR false (pre.length + 1) (evSs (F (fu + 1)) G b_kt (Ke pre u ((d : Int) + 1) 7) h) = .ok kd.d h' ∧ Inv pre h' ∧ Ck 5 u (2 * (d + 1)) kd := by
  obtain ⟨kd, h1, e1, i1, g⟩ := ih pre h (u + 1) (by omega) i
  simp only [Int.natCast_add, Int.natCast_one] at e1
  refine ⟨.un .som kd, h1, by simp -implicitDefEqProofs [b_kt, Kd.d, e1], i1, ⟨by simp [CW], (fun q => by cases q), g.ok⟩, g.tw, ?_⟩
  have := g.dep; simp only [Kd.dep]; omega
theorem tail_rec (i : Inv pre h) (ih : KSpec d (fu + 1)) (u : Nat) (hu : u + 3 * (d + 1) ≤ 1000) :
    ∃ (kd : Kd) (h' : Hh), finR false (pre.length + 1) (evSs (F (fu + 1)) G b_kt (Ke pre u ((d : Int) + 1) 8) h) = .ok kd.d h' ∧ Inv pre h' ∧ Ck 5 u (2 * (d + 1)) kd := by
  obtain ⟨kd, h1, e1, i1, g⟩ := ih pre h (u + 1) (by omega) i
  simp only [Int.natCast_add, Int.natCast_one] at e1
  refine ⟨.un .re (.mn .row (.cons .non kd .nil)), h1, by simp -implicitDefEqProofs [b_kt, Kd.d, Ks.ds, e1], i1, ⟨by simp [CW], (fun _ => rfl), by simp [CW], Nat.zero_le _, trivial, g.ok, trivial⟩, ⟨by show 1 ≤ 900; omega, g.tw, trivial⟩, ?_⟩
  have := g.dep; simp only [Kd.dep, Ks.dep]; omega
theorem tail_to (i : Inv pre h) (ih : KSpec d (fu + 1)) (u : Nat) (hu : u + 3 * (d + 1) ≤ 1000) {way : Int} (hw : way = 9 ∨ way = 10) :
    ∃ (kd : Kd) (h' : Hh), finR false (pre.length + 1) (evSs (F (fu + 1)) G b_kt (Ke pre u ((d : Int) + 1) way) h) = .ok kd.d h' ∧ Inv pre h' ∧ Ck 5 u (2 * (d + 1)) kd := by
  obtain ⟨v, h1, e1, v0, v1, i1⟩ := draw_s (k := fu) i (many := 5) (by omega) (by omega)
  obtain ⟨m, hm, em⟩ := many_ok v0 v1
  obtain ⟨v2, h2, e2, v20, v21, i2⟩ := draw_s (k := fu) i1 (many := 4) (by omega) (by omega)
  obtain ⟨zs, h3, e3, l3, q3, i3⟩ := loop_2 (u := u) (m := m) (by omega) ih i2 (rngD 0 v2) (some (.int way)) none none
  obtain ⟨kd, h4, e4, i4, g4⟩ := ih pre h3 (u + m) (by omega) i3
  simp only [Int.natCast_add] at e4
  have hr : rngOk 0 v2 = true := rng_ok (by omega) (by omega)
  have hz : (rngD 0 v2).length ≤ 16777216 := by rw [rngD_len]; omega
  have g := of_ck q3
  refine ⟨.to m (Ks.of zs) kd, h4, ?_, i4, ⟨by simp [CW], by omega, g.ok, g4.ok⟩, ⟨by rw [of_len, l3, rngD_len]; omega, g.tw, g4.tw⟩, ?_⟩
  · rcases hw with rfl | rfl <;> simp -implicitDefEqProofs [b_kt, Kd.d, e1, em, e2, hr, hz, e3, e4, of_ds]
  · have := g.dep; have := g4.dep; simp only [Kd.dep]; omega
theorem inv_len (i : Inv pre h) : h.length = pre.length + 1 := by
  obtain ⟨a, b, c, rfl, _⟩ := i
  simp [Cup]
/-- a drawn kind is a good one -/
theorem kind_ok : ∀ (deep n : Nat), deep ≤ n → KSpec deep (n + 2)
  | 0, n, _, pre, h, u, hu, i => by
    obtain ⟨v, h1, e1, v0, v1, i1⟩ := draw_s (k := n) i (many := 3) (by omega) (by omega)
    have hw : v = 0 ∨ v = 1 ∨ v = 2 := by omega
    obtain ⟨kd, h2, e2, i2, g⟩ := tail_leaf (fu := n) i1 u 0 (by omega) hw
    refine ⟨kd, h2, ?_, i2, g.mono (Nat.le_refl _) (Nat.le_refl _) (Nat.zero_le _)⟩
    rw [C__law_kind, b_kt_eq, inv_len i]
    simp -implicitDefEqProofs only [Int.natCast_zero]
    simp -implicitDefEqProofs [e1]
    exact e2
  | d + 1, n + 1, hn, pre, h, u, hu, i => by
    obtain ⟨v, h1, e1, v0, v1, i1⟩ := draw_s (k := n + 1) i (many := 11) (by omega) (by omega)
    have ih := kind_ok d n (by omega)
    have fin : ∀ {kd : Kd} {h' : Hh}, finR false (pre.length + 1) (evSs (F (n + 2)) G b_kt (Ke pre u ((d : Int) + 1) v) h1) = .ok kd.d h' → C (n + 3) n__law_kind [.ref pre.length, .int (u : Int), .int ((d + 1 : Nat) : Int)] h = .ok kd.d h' := by
      intro kd h' e
      rw [C__law_kind, b_kt_eq, inv_len i, Int.natCast_add, Int.natCast_one]
      have hp : (0 : Int) < (d : Int) + 1 := by omega
      simp -implicitDefEqProofs [e1, hp]
      exact e
    have hw : (v = 0 ∨ v = 1 ∨ v = 2) ∨ (v = 3 ∨ v = 4) ∨ v = 5 ∨ v = 6 ∨ v = 7 ∨ v = 8 ∨ (v = 9 ∨ v = 10) := by omega
    rcases hw with hw | hw | hw | hw | hw | hw | hw
    · obtain ⟨kd, h2, e2, i2, g⟩ := tail_leaf (fu := n + 1) i1 u ((d : Int) + 1) (by omega) hw
      exact ⟨kd, h2, fin e2, i2, g.mono (Nat.le_refl _) (Nat.le_refl _) (Nat.zero_le _)⟩
    · obtain ⟨kd, h2, e2, i2, g⟩ := tail_row i1 ih u hu hw
      exact ⟨kd, h2, fin e2, i2, g⟩
    · subst hw; obtain ⟨kd, h2, e2, i2, g⟩ := tail_one i1 ih u hu
      exact ⟨kd, h2, fin e2, i2, g⟩
    · subst hw; obtain ⟨kd, h2, e2, i2, g⟩ := tail_cell i1 ih u hu
      exact ⟨kd, h2, fin e2, i2, g⟩
    · subst hw; obtain ⟨kd, h2, e2, i2, g⟩ := tail_some i1 ih u hu
      exact ⟨kd, h2, fin e2, i2, g⟩
    · subst hw; obtain ⟨kd, h2, e2, i2, g⟩ := tail_rec i1 ih u hu
      exact ⟨kd, h2, fin e2, i2, g⟩
    · obtain ⟨kd, h2, e2, i2, g⟩ := tail_to i1 ih u hu hw
      exact ⟨kd, h2, fin e2, i2, g⟩
end
end K22
end

section
set_option maxRecDepth 100000
namespace K22
open PySem PV Kn
section
variable {h : Hh}
theorem same_ok : ∀ (n : Nat) (d : D), pl d = true → d.dep ≤ n → C (n + 1) n__law_same [d, d] h = .ok (.bl true) h
  | n, .non, _, _ => by simp -implicitDefEqProofs [C__law_same, D.isNon]
  | n, .bl b, _, _ => by cases b <;> simp -implicitDefEqProofs [C__law_same, D.isNon, D.eqBl]
  | n, .int i, _, _ => by
    have e : ∀ b : Bool, opCmp .isn h (.int i) (.bl b) = some true := fun b => by cases b <;> rfl
    simp -implicitDefEqProofs [C__law_same, D.isNon, D.eqBl, opIsi, D.isF, e]
  | n, .str x, _, _ => by simp -implicitDefEqProofs [C__law_same, D.isNon, D.eqBl, opIsi, D.isF]
  | n + 1, .tup xs, hp, hd => by
    simp only [pl, Bool.and_eq_true, decide_eq_true_eq] at hp
    have hr : rngOk 0 (xs.length : Int) = true := rng_ok (by omega) (by omega)
    have hz : (rngD 0 (xs.length : Int)).length ≤ 16777216 := by rw [rngD_len]; omega
    have l := lcF (h := h) (turn := lcTurn (.v 2) (evE (F (n + 1)) G c__law_same_0) (evE (F (n + 1)) G x__law_same_0) [some (.tup xs), some (.tup xs), none]) (xs := rngD 0 (xs.length : Int)) (acc := []) (fun _ => none) (fun x hx => by
      obtain ⟨k, hk⟩ := List.mem_iff_getElem?.mp hx
      rw [rngD_get] at hk
      split at hk
      · rename_i hk2
        cases hk
        have e : L2.atI xs (k : Int) = some xs[k] := L2.atI_nat (List.getElem?_eq_getElem hk2)
        have e2 := same_ok n xs[k] (pls_iff.mp hp.2 _ (List.getElem_mem hk2)) (P64.subd hd (List.getElem_mem hk2))
        simp [e, e2]
      · cases hk)
    have fm : (rngD 0 (xs.length : Int)).filterMap (fun _ => (none : Option D)) = [] := by simp
    rw [fm] at l
    have e : opCmp .eq h (.lst []) (.lst []) = some true := rfl
    simp -implicitDefEqProofs [C__law_same, D.isNon, D.eqBl, opIsi, D.isF, hr, hz, l, e]
  | n + 1, .lst xs, hp, hd => by
    simp only [pl, Bool.and_eq_true, decide_eq_true_eq] at hp
    have hr : rngOk 0 (xs.length : Int) = true := rng_ok (by omega) (by omega)
    have hz : (rngD 0 (xs.length : Int)).length ≤ 16777216 := by rw [rngD_len]; omega
    have l := lcF (h := h) (turn := lcTurn (.v 2) (evE (F (n + 1)) G c__law_same_0) (evE (F (n + 1)) G x__law_same_0) [some (.lst xs), some (.lst xs), none]) (xs := rngD 0 (xs.length : Int)) (acc := []) (fun _ => none) (fun x hx => by
      obtain ⟨k, hk⟩ := List.mem_iff_getElem?.mp hx
      rw [rngD_get] at hk
      split at hk
      · rename_i hk2
        cases hk
        have e : L2.atI xs (k : Int) = some xs[k] := L2.atI_nat (List.getElem?_eq_getElem hk2)
        have e2 := same_ok n xs[k] (pls_iff.mp hp.2 _ (List.getElem_mem hk2)) (P64.subd hd (List.getElem_mem hk2))
        simp [e, e2]
      · cases hk)
    have fm : (rngD 0 (xs.length : Int)).filterMap (fun _ => (none : Option D)) = [] := by simp
    rw [fm] at l
    have e : opCmp .eq h (.lst []) (.lst []) = some true := rfl
    simp -implicitDefEqProofs [C__law_same, D.isNon, D.eqBl, opIsi, D.isF, hr, hz, l, e]
  | 0, .tup xs, _, hd => by simp [D.dep] at hd
  | 0, .lst xs, _, hd => by simp [D.dep] at hd
/-- a kind is the same as itself -/
theorem same_kd {ws : List Str} {f u dp : Nat} {k : Kd} (g : Gd ws f u dp k) (n : Nat) (hn : 3 * dp + 1 ≤ n) : C (n + 1) n__law_same [k.d, k.d] h = .ok (.bl true) h := by
  have p := kd_pn g.ok g.sm g.dep
  exact same_ok n k.d p.1 (Nat.le_trans p.2 hn)
/-- what is no kind of core -/
def noKinds (k : D) : List D := [.tup [.str "not", .int 0, .tup [k]], .tup [.str "var", .int 0], .tup [.str "row", .tup [k, .tup [.str "var", .int 0]]], .tup [.str "one", .tup []], .lst [.str "int"], .non, .tup [.str "int", .int 1],
  .tup [.str "to", .int (-1), .tup [], k], .tup [.str "to", .bl true, .tup [], k], .tup [.str "to", .int 1, .tup [k]], .tup [.str "to", .int 0, .lst [k], k], .str "int",
  .tup [.str "room", .tup [.tup [k, .bl true]]], .tup [.str "rec", .tup [.str "var", .int 0]], .tup [.str "some", k, k], .tup [.str "free", .int (-1)], .tup [.str "cell"], .tup []]
theorem noK {k : D} (hk : isHd k = true) {n : Nat} : ∀ x ∈ noKinds k, isK CW (EL : Int) (n + 2) 0 x = false := by
  intro x hx
  simp only [noKinds, List.mem_cons, List.not_mem_nil, or_false] at hx
  rcases hx with rfl | rfl | rfl | rfl | rfl | rfl | rfl | rfl | rfl | rfl | rfl | rfl | rfl | rfl | rfl | rfl | rfl | rfl
  · simp [isK, CW]
  · simp [isK, form, one1, isNt, numD]
  · have : isK CW (EL : Int) (n + 1) 0 (.tup [.str "var", .int 0]) = false := by simp [isK, form, one1, isNt, numD]
    generalize (D.tup [D.str "var", D.int 0]) = v at this ⊢
    simp [isK, form, one1, isHds, inn, items, bnn, this]
  · simp [isK, form, one1, isHds, items]
  · simp [isK]
  · simp [isK]
  · simp [isK, form]
  · simp [isK, form, three3, inB, bnd]
  · simp [isK, form, three3, inB]
  · simp [isK, form, three3]
  · simp [isK, form, three3, inB, isHds]
  · simp [isK]
  · simp [isK, CW]
  · simp [isK, form, one1, hdV]
  · simp [isK, form, one1]
  · simp [isK, form, one1, isNt]
  · simp [isK, form, one1]
  · simp [isK]
theorem noP {k : D} {dp : Nat} (hk : PN dp k) : ∀ x ∈ noKinds k, PN (dp + 4) x := by
  intro x hx
  have h1 := hk.1
  have h2 := hk.2
  simp only [noKinds, List.mem_cons, List.not_mem_nil, or_false] at hx
  rcases hx with rfl | rfl | rfl | rfl | rfl | rfl | rfl | rfl | rfl | rfl | rfl | rfl | rfl | rfl | rfl | rfl | rfl | rfl <;>
    refine ⟨by simp [pl, pls, h1], ?_⟩ <;> simp only [D.dep, D.deps] <;> omega
theorem no_kind_ok {pre : Hh} (i : Inv pre h) {k : D} (m : Nat) : ∃ x h', C (m + 2) n__law_no_kind [.ref pre.length, k] h = .ok x h' ∧ x ∈ noKinds k ∧ Inv pre h' := by
  obtain ⟨v, h', e, v0, v1, i'⟩ := draw_s (k := m) i (many := 18) (by omega) (by omega)
  obtain ⟨n, rfl⟩ : ∃ n : Nat, v = (n : Int) := ⟨v.toNat, by omega⟩
  have hn : n < (noKinds k).length := by show n < 18; omega
  have a : L2.atI (noKinds k) (n : Int) = some (noKinds k)[n] := L2.atI_nat (List.getElem?_eq_getElem hn)
  refine ⟨(noKinds k)[n], h', ?_, List.getElem_mem hn, i'⟩
  generalize (noKinds k)[n] = y at a
  simp only [noKinds] at a
  simp -implicitDefEqProofs [C__law_no_kind, e, a]
end
end K22
end

section
set_option maxRecDepth 100000
namespace K22
open PySem PV Kn
theorem forI {t : Tg} {body : PV.Env → Hh → RS} (I : Nat → PV.Env → Hh → Prop) : ∀ {xs : List D} {n : Nat} {ρ : PV.Env} {h : Hh}, I n ρ h → (∀ x ∈ xs, ∀ n ρ h, I n ρ h → ∃ ρ1 ρ2 h2, t.put x ρ = some ρ1 ∧ body ρ1 h = .nxt ρ2 h2 ∧ I (n + 1) ρ2 h2) → ∃ ρ' h', forLoop (fun _ => true) t body xs ρ h = .nxt ρ' h' ∧ I (n + xs.length) ρ' h'
  | [], n, ρ, h, hi, _ => ⟨ρ, h, by unfold forLoop; rfl, hi⟩
  | x :: xs, n, ρ, h, hi, st => by
    obtain ⟨ρ1, ρ2, h2, e1, e2, i2⟩ := st x List.mem_cons_self n ρ h hi
    obtain ⟨ρ', h', e3, i3⟩ := forI I (xs := xs) i2 fun y hy => st y (List.mem_cons_of_mem _ hy)
    refine ⟨ρ', h', ?_, by rw [List.length_cons, Nat.add_comm xs.length 1, ← Nat.add_assoc]; exact i3⟩
    unfold forLoop
    rw [if_pos rfl, e1]
    dsimp only
    rw [e2]
    exact e3
section
variable {pre h : Hh} {m : Nat}
theorem kind_at (i : Inv pre h) (deep u : Nat) {di ui : Int} (hd : (deep : Int) = di) (hu : (u : Int) = ui) (n : Nat) (hn : deep ≤ n) (hb : u + 3 * deep ≤ 1000) :
    ∃ (kd : Kd) (h' : Hh), C (n + 2) n__law_kind [.ref pre.length, .int ui, .int di] h = .ok kd.d h' ∧ Inv pre h' ∧ Ck 5 u (2 * deep) kd := by
  subst hd; subst hu
  exact kind_ok deep n hn pre h u hb i
/-! ### a great one -/
def b_gr : Ss := .cons (.asg 1 (.tup (.cons (.con (.str "row")) (.cons (.tup (.cons (.var 1) (.cons (.var 1) .nil))) .nil)))) .nil
theorem b_gr_eq : b__law_great_right = .cons (.asg 1 (.call 23 (.cons (.var 0) (.cons (.con (.int 0)) (.cons (.con (.int 0)) .nil))))) (.cons (.asg 1 (.tup (.cons (.con (.str "to")) (.cons (.con (.int 1)) (.cons (.tup (.cons (.var 1) .nil)) (.cons (.tup (.cons (.con (.str "var")) (.cons (.con (.int 0)) .nil))) .nil)))))) (.cons (.for_ (.v 2) (.rng (.con (.int 7))) b_gr) (.cons (.ret (.call 20 (.cons (.call 17 (.cons (.var 1) .nil)) (.cons (.call 22 (.cons (.var 1) .nil)) .nil)))) .nil))) := rfl
def gk : Nat → Kd → Kd
  | 0, k => .to 1 (.cons .non k .nil) (.var 0)
  | n + 1, k => .mn .row (.cons .non (gk n k) (.cons .non (gk n k) .nil))
theorem gk_ok {k : Kd} (c : Ck 5 0 0 k) : ∀ n : Nat, Ck 5 0 (n + 1) (gk n k)
  | 0 => ⟨⟨by simp [CW], by omega, ⟨ok_le k c.ok (Nat.le_refl _) (Nat.zero_le _), trivial⟩, by show 0 < 0 + 1; omega⟩, ⟨by show 1 ≤ 900; omega, ⟨c.tw, trivial⟩, trivial⟩, by have := c.dep; simp only [gk, Kd.dep, Ks.dep]; omega⟩
  | n + 1 => by
    have g := gk_ok c n
    exact ⟨⟨by simp [CW], Nat.zero_le _, trivial, g.ok, g.ok, trivial⟩, ⟨by show 2 ≤ 900; omega, g.tw, g.tw, trivial⟩, by have := g.dep; simp only [gk, Kd.dep, Ks.dep]; omega⟩
theorem great_ok (i : Inv pre h) : ∃ h', C (m + 141) n__law_great_right [.ref pre.length] h = .ok (.bl true) h' ∧ Inv pre h' := by
  obtain ⟨kd, h1, e1, i1, g⟩ := kind_at i 0 0 (di := 0) (ui := 0) rfl rfl (m + 138) (by omega) (by omega)
  have e1 : C (m + 140) n__law_kind [.ref pre.length, .int 0, .int 0] h = .ok kd.d h1 := e1
  refine ⟨h1, ?_, i1⟩
  obtain ⟨ρ', h', el, r2', rfl, rfl⟩ := forI (t := .v 2) (body := evSs (F (m + 140)) G b_gr) (fun n ρ h => ∃ r2, ρ = [some (.ref pre.length), some (gk n kd).d, r2] ∧ h = h1) (xs := rngD 0 7) (n := 0) (ρ := [some (.ref pre.length), some (gk 0 kd).d, none]) (h := h1) ⟨none, rfl, rfl⟩ (by
    rintro x _ n ρ h ⟨r2, rfl, rfl⟩
    refine ⟨[some (.ref pre.length), some (gk n kd).d, some x], _, _, rfl, ?_, some x, rfl, rfl⟩
    generalize hk : (gk n kd).d = z
    have hk2 : (gk (n + 1) kd).d = .tup [.str "row", .tup [z, z]] := by rw [← hk]; rfl
    rw [hk2]
    simp -implicitDefEqProofs [b_gr])
  have hl : (rngD 0 7).length = 7 := rfl
  have c := gk_ok g 7
  have e2 : C (m + 140) n_carried [(gk 7 kd).d] h' = .ok (gk 7 kd).tn.d h' := carried_ok c (by decide +kernel) (by omega) (m + 134) (by omega)
  have e3 : C (m + 140) n__law_turned [(gk 7 kd).d] h' = .ok (gk 7 kd).tn.d h' := lturned_ok (gk 7 kd) 0 (m + 139) c.ok c.sm (by have := c.dep; omega)
  have e4 : C (m + 140) n__law_same [(gk 7 kd).tn.d, (gk 7 kd).tn.d] h' = .ok (.bl true) h' := same_kd c.tn (m + 139) (by omega)
  rw [hl, Nat.zero_add] at el
  have g0 : (gk 0 kd).d = .tup [.str "to", .int 1, .tup [kd.d], .tup [.str "var", .int 0]] := rfl
  rw [g0] at el
  rw [C__law_great_right, b_gr_eq]
  generalize (gk 7 kd).tn.d = z at e2 e3 e4
  generalize (gk 7 kd).d = y at el e2 e3
  have hr : rngOk 0 7 = true := rng_ok (by omega) (by omega)
  simp -implicitDefEqProofs [e1, hr, el, e2, e3, e4]
end
end K22
end

section
set_option maxRecDepth 100000
namespace K22
open PySem PV Kn
def b_ow : Ss := match b__law_opens_alike with
  | .cons _ (.cons (.for_ _ _ b) _) => b
  | _ => .nil
def b_ot : Ss := match b__law_opens_alike with
  | .cons _ (.cons _ t) => t
  | _ => .nil
theorem b_oa_eq : b__law_opens_alike = .cons (.unp [2, 3, 4] (.tup (.cons (.call 23 (.cons (.var 0) (.cons (.con (.int 0)) (.cons (.con (.int 1)) .nil)))) (.cons (.call 23 (.cons (.var 0) (.cons (.con (.int 0)) (.cons (.con (.int 2)) .nil)))) (.cons (.call 23 (.cons (.var 0) (.cons (.con (.int 0)) (.cons (.con (.int 0)) .nil)))) .nil))))) (.cons (.for_ (.v 5) (.ev (.lst (.cons (.con (.str "some")) (.cons (.con (.str "rec")) .nil)))) b_ow) b_ot) := rfl
section
variable {pre h : Hh} {m : Nat}
/-- one word's turn -/
theorem word_turn (i : Inv pre h) {one : Kd} (g1 : Ck 5 0 2 one) {w : Un} (hw : w = .som ∨ w = .re) (r1 r3 r4 r6 r7 r8 r9 r10 r11 r12 : Option D) :
    ∃ r6' r7' r8' h', evSs (F (m + 140)) G b_ow [some (.ref pre.length), r1, some one.d, r3, r4, some (.str w.nm), r6, r7, r8, r9, r10, r11, r12] h = .nxt [some (.ref pre.length), r1, some one.d, r3, r4, some (.str w.nm), r6', r7', r8', r9, r10, r11, r12] h' ∧ Inv pre h' := by
  obtain ⟨kd, h1, e1, i1, g⟩ := kind_at i 2 1 (di := 2) (ui := 1) rfl rfl (m + 138) (by omega) (by omega)
  have e1 : C (m + 140) n__law_kind [.ref pre.length, .int 1, .int 2] h = .ok kd.d h1 := e1
  have gs : ∀ s ∈ [one], Ck 5 0 2 s := fun s hs => by rw [List.mem_singleton.mp hs]; exact g1
  have go : Ck 5 0 6 (kd.tr (putG [one]) 0) := Ck.opn (ss := [one]) g gs
  let ro : Kd := .mn .row (.cons .non (kd.tr (putG [one]) 0) .nil)
  let wh : Kd := .un w (.mn .row (.cons .non kd .nil))
  have gro : Ck 5 0 7 ro := ⟨⟨by simp [CW], Nat.zero_le _, trivial, go.ok, trivial⟩, ⟨by show 1 ≤ 900; omega, go.tw, trivial⟩, by have := go.dep; show max (kd.tr (putG [one]) 0).dep 0 + 1 ≤ 7; omega⟩
  have gwh : Ck 5 0 6 wh := by
    refine ⟨⟨by rcases hw with rfl | rfl <;> simp [CW], fun _ => rfl, by simp [CW], Nat.zero_le _, trivial, ?_, trivial⟩, ⟨by show 1 ≤ 900; omega, g.tw, trivial⟩, by have := g.dep; show max kd.dep 0 + 1 + 1 ≤ 6; omega⟩
    rcases hw with rfl | rfl <;> exact g.ok
  have f1 : C (m + 140) n__law_opened [kd.d, .tup [one.d], .int 0] h1 = .ok (kd.tr (putG [one]) 0).d h1 := lop_ok (ss := [one]) kd 0 (m + 139) (cw_nr g.ok) g.sm (by have := g.dep; omega)
  have f2 : C (m + 140) n__law_turned [.tup [.str "row", .tup [(kd.tr (putG [one]) 0).d]]] h1 = .ok ro.tn.d h1 := lturned_ok ro 0 (m + 139) gro.ok gro.sm (by have := gro.dep; omega)
  have hB : Kd.isB wh = true := by rcases hw with rfl | rfl <;> rfl
  have f3 : C (m + 140) n_opened [.tup [.str w.nm, .tup [.str "row", .tup [kd.d]]], .tup [one.d]] h1 = .ok ro.d h1 := by
    have := opened_ok (h := h1) (ss := [one]) (d := wh) (n := m + 136) gwh.sm hB (by have := gwh.dep; omega)
    exact this
  have f4 : C (m + 140) n_carried [ro.d] h1 = .ok ro.tn.d h1 := carried_ok gro (by decide +kernel) (by omega) (m + 134) (by omega)
  have f5 : C (m + 140) n__law_same [ro.tn.d, ro.tn.d] h1 = .ok (.bl true) h1 := same_kd gro.tn (m + 139) (by omega)
  have f6 : C (m + 140) n_carried [.tup [.str w.nm, .tup [.str "row", .tup [kd.d]]]] h1 = .ok wh.tn.d h1 := carried_ok gwh (by decide +kernel) (by omega) (m + 134) (by omega)
  have f7 : C (m + 140) n_carried [one.d] h1 = .ok one.tn.d h1 := carried_ok g1 (by decide +kernel) (by omega) (m + 134) (by omega)
  have hB2 : Kd.isB wh.tn = true := by rcases hw with rfl | rfl <;> rfl
  have f8 : C (m + 140) n_opened [wh.tn.d, .tup [one.tn.d]] h1 = .ok ro.tn.d h1 := by
    have := opened_ok (h := h1) (ss := [one.tn]) (d := wh.tn) (n := m + 136) gwh.tn.sm hB2 (by have := gwh.tn.dep; omega)
    have q : Kd.op (wh.tn.inn (putG [one.tn]) 0) = ro.tn.d := by
      have t := tn_tr (putG [one]) kd 0
      rw [putG_tn] at t
      show D.tup [D.str "row", .tup [(kd.tn.tr (putG [one.tn]) 0).d]] = D.tup [D.str "row", .tup [(kd.tr (putG [one]) 0).tn.d]]
      rw [t]; rfl
    rw [q] at this
    exact this
  generalize ro.tn.d = z1 at f2 f4 f5 f8
  generalize ro.d = z2 at f3 f4
  generalize wh.tn.d = z3 at f6 f8
  refine ⟨some kd.d, some (.tup [.str w.nm, .tup [.str "row", .tup [kd.d]]]), some z1, h1, ?_, i1⟩
  generalize w.nm = s at f3 f6 ⊢
  simp -implicitDefEqProofs [b_ow, e1, f1, f2, f3, f4, f5, f6, f7, f8]
theorem words_loop (i : Inv pre h) {one : Kd} (g1 : Ck 5 0 2 one) (r1 r3 r4 r9 r10 r11 r12 : Option D) :
    ∃ r5' r6' r7' r8' h', forLoop (fun _ => true) (.v 5) (evSs (F (m + 140)) G b_ow) [.str "some", .str "rec"] [some (.ref pre.length), r1, some one.d, r3, r4, none, none, none, none, r9, r10, r11, r12] h = .nxt [some (.ref pre.length), r1, some one.d, r3, r4, r5', r6', r7', r8', r9, r10, r11, r12] h' ∧ Inv pre h' := by
  obtain ⟨ρ', h', el, r5, r6, r7, r8, rfl, i'⟩ := forI (t := .v 5) (body := evSs (F (m + 140)) G b_ow) (fun _ ρ h => ∃ r5 r6 r7 r8, ρ = [some (.ref pre.length), r1, some one.d, r3, r4, r5, r6, r7, r8, r9, r10, r11, r12] ∧ Inv pre h) (xs := [.str "some", .str "rec"]) (n := 0) (ρ := [some (.ref pre.length), r1, some one.d, r3, r4, none, none, none, none, r9, r10, r11, r12]) (h := h) ⟨_, _, _, _, rfl, i⟩ (by
    rintro x hx _ ρ h ⟨r5, r6, r7, r8, rfl, i⟩
    obtain ⟨w, hw, rfl⟩ : ∃ w : Un, (w = .som ∨ w = .re) ∧ x = .str w.nm := by
      (simp only [List.mem_cons, List.not_mem_nil, or_false] at hx)
      rcases hx with rfl | rfl
      · exact ⟨.som, .inl rfl, rfl⟩
      · exact ⟨.re, .inr rfl, rfl⟩
    obtain ⟨r6', r7', r8', h', e, i'⟩ := word_turn (m := m) i g1 hw r1 r3 r4 r6 r7 r8 r9 r10 r11 r12
    exact ⟨_, _, _, rfl, e, _, _, _, _, rfl, i'⟩)
  exact ⟨r5, r6, r7, r8, h', el, i'⟩
end
end K22
end

section
set_option maxRecDepth 100000
namespace K22
open PySem PV Kn
section
variable {pre h : Hh} {m : Nat}
theorem opn_turns {ss : List Kd} {one other third : D} (hs : .tup (kds ss) = D.tup [one, other, third]) {xs ys : List D} {r0 r1 r5 r6 r7 r8 r9 r10 r12 : Option D} (hb : A2 (fun x y => ∃ z, C m n__law_opened [x, .tup (kds ss), .int 0] h = .ok z h ∧ C m n__law_turned [z] h = .ok y h) xs ys) :
    A2 (fun x y => lcTurn (.v 11) (evE (F m) G c__law_opens_alike_0) (evE (F m) G x__law_opens_alike_0) [r0, r1, some one, some other, some third, r5, r6, r7, r8, r9, r10, none, r12] x h = .ok (some y) h) xs ys := by
  rw [hs] at hb
  exact hb.imp fun x y ⟨z, p, q⟩ => by simp [p, q]
theorem put3 {i j k : Nat} {x y z : D} {ρ : PV.Env} : (Tg.tu [i, j, k]).put (.tup [x, y, z]) ρ = some (((ρ.set i (some x)).set j (some y)).set k (some z)) := id rfl
theorem rsopt {ρ : PV.Env} {h : Hh} : RS.opt (some ρ) h = .nxt ρ h := id rfl
theorem cut3 (x y z : D) : cutD [x, y, z] none (some 2) = [x, y] := rfl
theorem cut3b (x y z : D) : cutD [x, y, z] (some 2) none = [z] := rfl
theorem opens_ok (i : Inv pre h) {kind : Kd} (g : Ck 5 0 8 kind) : ∃ h', C (m + 141) n__law_opens_alike [.ref pre.length, kind.d] h = .ok (.bl true) h' ∧ Inv pre h' := by
  obtain ⟨one, h1, e1, i1, g1⟩ := kind_at i 1 0 (di := 1) (ui := 0) rfl rfl (m + 138) (by omega) (by omega)
  have e1 : C (m + 140) n__law_kind [.ref pre.length, .int 0, .int 1] h = .ok one.d h1 := e1
  obtain ⟨other, h2, e2, i2, g2⟩ := kind_at i1 2 0 (di := 2) (ui := 0) rfl rfl (m + 138) (by omega) (by omega)
  have e2 : C (m + 140) n__law_kind [.ref pre.length, .int 0, .int 2] h1 = .ok other.d h2 := e2
  obtain ⟨third, h3, e3, i3, g3⟩ := kind_at i2 0 0 (di := 0) (ui := 0) rfl rfl (m + 138) (by omega) (by omega)
  have e3 : C (m + 140) n__law_kind [.ref pre.length, .int 0, .int 0] h2 = .ok third.d h3 := e3
  obtain ⟨r5, r6, r7, r8, h4, el, i4⟩ := words_loop (m := m) i3 g1 (some kind.d) (some other.d) (some third.d) none none none none
  obtain ⟨asked, h5, e5, i5, g5⟩ := kind_at i4 2 3 (di := 2) (ui := 3) rfl rfl (m + 138) (by omega) (by omega)
  have e5 : C (m + 140) n__law_kind [.ref pre.length, .int 3, .int 2] h4 = .ok asked.d h5 := e5
  obtain ⟨told, h6, e6, i6, g6⟩ := kind_at i5 2 3 (di := 2) (ui := 3) rfl rfl (m + 138) (by omega) (by omega)
  have e6 : C (m + 140) n__law_kind [.ref pre.length, .int 3, .int 2] h5 = .ok told.d h6 := e6
  have gs : ∀ s ∈ [one, other, third], Ck 5 0 4 s := fun s hs => by
    simp only [List.mem_cons, List.not_mem_nil, or_false] at hs
    rcases hs with rfl | rfl | rfl
    · exact g1.mono (Nat.le_refl _) (Nat.le_refl _) (by omega)
    · exact g2
    · exact g3.mono (Nat.le_refl _) (Nat.le_refl _) (by omega)
  have go : ∀ {k : Kd}, Ck 5 3 8 k → Ck 5 0 12 (k.tr (putG [one, other, third]) 0) := fun {k} c => Ck.opn (ss := [one, other, third]) c gs
  have ga : Ck 5 3 8 asked := g5.mono (Nat.le_refl _) (Nat.le_refl _) (by omega)
  have gk : Ck 5 3 8 kind := g.mono (Nat.le_refl _) (by omega) (Nat.le_refl _)
  have gt : Ck 5 3 8 told := g6.mono (Nat.le_refl _) (Nat.le_refl _) (by omega)
  have pt : ∀ {k : Kd}, Ck 5 3 8 k → ∃ z, C (m + 140) n__law_opened [k.d, .tup (kds [one, other, third]), .int 0] h6 = .ok z h6 ∧ C (m + 140) n__law_turned [z] h6 = .ok (k.tr (putG [one, other, third]) 0).tn.d h6 := fun {k} c =>
    ⟨_, lop_ok (ss := [one, other, third]) k 0 (m + 139) (cw_nr c.ok) c.sm (by have := c.dep; omega), lturned_ok (k.tr (putG [one, other, third]) 0) 0 (m + 139) (go c).ok (go c).sm (by have := (go c).dep; omega)⟩
  let wh : Kd := .to 3 (.cons .non asked (.cons .non kind .nil)) told
  have gwh : Ck 5 0 9 wh := ⟨⟨by simp [CW], by omega, ⟨ga.ok, gk.ok, trivial⟩, gt.ok⟩, ⟨by show 2 ≤ 900; omega, ⟨ga.tw, gk.tw, trivial⟩, gt.tw⟩, by have := ga.dep; have := gk.dep; have := gt.dep; show max (max asked.dep (max kind.dep 0)) told.dep + 1 ≤ 9; omega⟩
  have lp := fun r12 => lcA (acc := []) (opn_turns (r0 := some (.ref pre.length)) (r1 := some kind.d) (r5 := r5) (r6 := r6) (r7 := some (.tup [.str "to", .int 3, .tup [asked.d, kind.d], told.d])) (r8 := r8) (r9 := some asked.d) (r10 := some told.d) (r12 := r12) (one := one.d) (other := other.d) (third := third.d) rfl (A2.cons (pt ga) (A2.cons (pt gk) (A2.cons (pt gt) A2.nil))))
  have f1 : C (m + 140) n_carried [.tup [.str "to", .int 3, .tup [asked.d, kind.d], told.d]] h6 = .ok wh.tn.d h6 := carried_ok gwh (by decide +kernel) (by omega) (m + 134) (by omega)
  have f2 : C (m + 140) n_carried [one.d] h6 = .ok one.tn.d h6 := carried_ok g1 (by decide +kernel) (by omega) (m + 134) (by omega)
  have f3 : C (m + 140) n_carried [other.d] h6 = .ok other.tn.d h6 := carried_ok g2 (by decide +kernel) (by omega) (m + 134) (by omega)
  have f4 : C (m + 140) n_carried [third.d] h6 = .ok third.tn.d h6 := carried_ok g3 (by decide +kernel) (by omega) (m + 134) (by omega)
  have tt : ∀ k : Kd, k.tn.tr (putG [one.tn, other.tn, third.tn]) 0 = (k.tr (putG [one, other, third]) 0).tn := fun k => by
    have t := tn_tr (putG [one, other, third]) k 0
    rw [putG_tn] at t
    exact t.symm
  have f5 : C (m + 140) n_opened [wh.tn.d, .tup [one.tn.d, other.tn.d, third.tn.d]] h6 = .ok (.tup [(asked.tr (putG [one, other, third]) 0).tn.d, (kind.tr (putG [one, other, third]) 0).tn.d, .tup [.str "not", .int 0, .tup [(told.tr (putG [one, other, third]) 0).tn.d]]]) h6 := by
    have := opened_ok (h := h6) (ss := [one.tn, other.tn, third.tn]) (d := wh.tn) (n := m + 136) gwh.tn.sm rfl (by have := gwh.tn.dep; omega)
    rw [← tt asked, ← tt kind, ← tt told]
    exact this
  have f6 : C (m + 140) n__law_same [.tup [(asked.tr (putG [one, other, third]) 0).tn.d, (kind.tr (putG [one, other, third]) 0).tn.d, .tup [.str "not", .int 0, .tup [(told.tr (putG [one, other, third]) 0).tn.d]]], .tup [(asked.tr (putG [one, other, third]) 0).tn.d, (kind.tr (putG [one, other, third]) 0).tn.d, .tup [.str "not", .int 0, .tup [(told.tr (putG [one, other, third]) 0).tn.d]]]] h6 = .ok (.bl true) h6 := by
    have a := (go ga).tn
    have b := (go gk).tn
    have c := (go gt).tn
    generalize (asked.tr (putG [one, other, third]) 0).tn = x at a ⊢
    generalize (kind.tr (putG [one, other, third]) 0).tn = y at b ⊢
    generalize (told.tr (putG [one, other, third]) 0).tn = z at c ⊢
    have pa := kd_pn a.ok a.sm a.dep
    have pb := kd_pn b.ok b.sm b.dep
    have pc := kd_pn c.ok c.sm c.dep
    have ha := pa.2; have hb := pb.2; have hc := pc.2
    refine same_ok (m + 139) _ (by simp [pl, pls, pa.1, pb.1, pc.1]) ?_
    simp only [D.dep, D.deps]; omega
  generalize (asked.tr (putG [one, other, third]) 0).tn.d = xa at lp f5 f6
  generalize (kind.tr (putG [one, other, third]) 0).tn.d = xk at lp f5 f6
  generalize (told.tr (putG [one, other, third]) 0).tn.d = xt at lp f5 f6
  generalize wh.tn.d = xw at f1 f5
  refine ⟨h6, ?_, i6⟩
  rw [C__law_opens_alike, b_oa_eq]
  simp -implicitDefEqProofs [put3, rsopt, e1, e2, e3, el, b_ot, e5, e6, lp, f1, f2, f3, f4, f5, f6, cut3, cut3b]
end
end K22
end

section
set_option maxRecDepth 100000
namespace K22
open PySem PV Kn
def b_in : Ss := match b_law with
  | .cons _ (.cons (.for_ _ _ b) _) => b
  | _ => .nil
section
variable {h : Hh} {m : Nat}
theorem lcM' {turn : D → Hh → R (Option D)} {h : Hh} (g : D → D) {xs : List D} (p : ∀ x ∈ xs, turn x h = .ok (some (g x)) h) : lcLoop (fun _ => true) turn xs [] h = .ok (.lst (xs.map g)) h := by
  have := lcM (acc := []) g p
  simpa using this
theorem other_ok {o1 kind : Kd} (g1 : Ck 5 0 6 o1) (g : Ck 5 0 8 kind) {v : Int} (h0 : 0 ≤ v) (h1 : v < 4) : ∃ k : Kd, Ck 5 0 9 k ∧ L2.atI [o1.d, .tup [.str "row", .tup [kind.d]], .tup [.str "to", .int 0, .tup [kind.d], kind.d], kind.d] v = some k.d := by
  have : v = 0 ∨ v = 1 ∨ v = 2 ∨ v = 3 := by omega
  have hd := g.dep
  rcases this with rfl | rfl | rfl | rfl
  · exact ⟨o1, g1.mono (Nat.le_refl _) (Nat.le_refl _) (by omega), rfl⟩
  · exact ⟨.mn .row (.cons .non kind .nil), ⟨⟨by simp [CW], Nat.zero_le _, trivial, g.ok, trivial⟩, ⟨by show 1 ≤ 900; omega, g.tw, trivial⟩, by show max kind.dep 0 + 1 ≤ 9; omega⟩, rfl⟩
  · exact ⟨.to 0 (.cons .non kind .nil) kind, ⟨⟨by simp [CW], by omega, ⟨g.ok, trivial⟩, g.ok⟩, ⟨by show 1 ≤ 900; omega, ⟨g.tw, trivial⟩, g.tw⟩, by show max (max kind.dep 0) kind.dep + 1 ≤ 9; omega⟩, rfl⟩
  · exact ⟨kind, g.mono (Nat.le_refl _) (Nat.le_refl _) (by omega), rfl⟩
theorem order_ok {v : Int} (h0 : 0 ≤ v) (h1 : v < 4) : ∃ o : List Nat, o.length ≤ 4 ∧ (∀ n ∈ o, n < 5) ∧ L2.atI [D.ftup [.int 4, .int 0], .ftup [.int 2], .ftup [.int 1, .int 3, .int 0], .ftup []] v = some (.ftup (nds o)) := by
  have : v = 0 ∨ v = 1 ∨ v = 2 ∨ v = 3 := by omega
  rcases this with rfl | rfl | rfl | rfl
  · exact ⟨[4, 0], by simp, by simp, rfl⟩
  · exact ⟨[2], by simp, by simp, rfl⟩
  · exact ⟨[1, 3, 0], by simp, by simp, rfl⟩
  · exact ⟨[], by simp, by simp, rfl⟩
theorem eq_kd {a b : D} (ha : P64 a) (hb : P64 b) : opCmp .eq h a b = some (a.eqv b) := by
  have pl_res : ∀ x : D, P64 x → x.res h = x := by intro x hx; cases x <;> first | rfl | cases hx.1
  have e : opEq h a b = if (a.res h).shp && (b.res h).shp then some ((a.res h).eqv (b.res h)) else none := by
    unfold opEq
    split
    · rename_i x y
      have hx := ha.shp; have hy := hb.shp
      show _ = if ((D.str x).shp && (D.str y).shp) = true then _ else _
      rw [hx, hy]; rfl
    · rfl
  show opEq h a b = _
  rw [e, pl_res a ha, pl_res b hb, ha.shp, hb.shp]; rfl
theorem ne_same (p : Bool) : opCmp .ne h (.bl p) (.bl p) = some false := by cases p <;> rfl
theorem loop_k {pre : Hh} (i : Inv pre h) (r0 r1 r3 r4 r5 r6 r7 r8 r9 r10 r11 r12 : Option D) :
    ∃ (zs : List Kd) (h' : Hh), lcLoop (fun _ => true) (lcTurn (.v 6) (evE (F (m + 141)) G c_law_0) (evE (F (m + 141)) G x_law_0) [r0, r1, some (.ref pre.length), r3, r4, r5, r6, r7, r8, r9, r10, r11, r12]) (rngD 0 5) [] h = .ok (.lst (kds zs)) h' ∧ zs.length = 5 ∧ (∀ z ∈ zs, Ck 5 0 2 z) ∧ Inv pre h' := by
  obtain ⟨zs, h', e, l, q, i'⟩ := lcS (Inv := Inv pre) (turn := lcTurn (.v 6) (evE (F (m + 141)) G c_law_0) (evE (F (m + 141)) G x_law_0) [r0, r1, some (.ref pre.length), r3, r4, r5, r6, r7, r8, r9, r10, r11, r12]) Kd.d (Ck 5 0 2) (xs := rngD 0 5) (acc := []) i (by
    intro x _ h i
    obtain ⟨kd, h', e, i', g⟩ := kind_at i 1 0 (di := 1) (ui := 0) rfl rfl (m + 139) (by omega) (by omega)
    have e : C (m + 141) n__law_kind [.ref pre.length, .int 0, .int 1] h = .ok kd.d h' := e
    exact ⟨kd, _, by simp [e], g, i'⟩)
  exact ⟨zs, h', e, l, q, i'⟩
theorem loop_c {zs : List Kd} (q : ∀ z ∈ zs, Ck 5 0 2 z) (r0 r1 r2 r3 r4 r5 r6 r7 r8 r9 r10 r11 r12 : Option D) :
    lcLoop (fun _ => true) (lcTurn (.v 8) (evE (F (m + 141)) G c_law_1) (evE (F (m + 141)) G x_law_1) [r0, r1, r2, r3, r4, r5, r6, r7, r8, r9, r10, r11, r12]) (kds zs) [] h = .ok (.lst (kds (zs.map Kd.tn))) h := by
  refine lcA (acc := []) (A2.of_get (by simp) fun i x y hx hy => ?_)
  simp only [kds, List.getElem?_map, Option.map_eq_some_iff] at hx hy
  obtain ⟨z, hz, rfl⟩ := hx
  obtain ⟨w, ⟨z', hz', rfl⟩, rfl⟩ := hy
  rw [hz] at hz'
  cases hz'
  have c := q z (List.mem_of_getElem? hz)
  have e : C (m + 141) n_carried [z.d] h = .ok z.tn.d h := carried_ok c (by decide +kernel) (by omega) (m + 135) (by omega)
  simp [e]
def fr : D → D := fun x => .tup [.str "free", x]
theorem loop_b (r0 r1 r2 r3 r4 r5 r6 r7 r8 r9 r10 r11 r12 : Option D) :
    lcLoop (fun _ => true) (lcTurn (.v 6) (evE (F (m + 141)) G c_law_2) (evE (F (m + 141)) G x_law_2) [r0, r1, r2, r3, r4, r5, r6, r7, r8, r9, r10, r11, r12]) (rngD 0 5) [] h = .ok (.lst ((rngD 0 5).map fr)) h :=
  lcM' fr fun x _ => by simp [fr]
theorem loop_o {o : List Nat} (ho : ∀ n ∈ o, n < 5) (r0 r1 r2 r3 r4 r5 r6 r7 r8 r9 r11 r12 : Option D) :
    lcLoop (fun _ => true) (lcTurn (.v 6) (evE (F (m + 141)) G c_law_3) (evE (F (m + 141)) G x_law_3) [r0, r1, r2, r3, r4, r5, r6, r7, r8, r9, some (.lst ((rngD 0 5).map fr)), r11, r12]) (nds o) [] h = .ok (.lst (kds (o.map Kd.free))) h := by
  refine lcA (acc := []) (A2.of_get (by simp) fun i x y hx hy => ?_)
  simp only [kds, nds, List.getElem?_map, Option.map_eq_some_iff] at hx hy
  obtain ⟨n, hn, rfl⟩ := hx
  obtain ⟨w, ⟨n', hn', rfl⟩, rfl⟩ := hy
  rw [hn] at hn'
  cases hn'
  have hb := ho n (List.mem_of_getElem? hn)
  have e : L2.atI ((rngD 0 5).map fr) (n : Int) = some (Kd.free n).d := by
    refine L2.atI_nat ?_
    have g := rngD_get 5 n
    rw [if_pos hb] at g
    have g : (rngD 0 5)[n]? = some (.int (n : Int)) := g
    rw [List.getElem?_map, g]; rfl
  simp [e]
theorem shutG_nr (o : List Nat) (v : Nat) (f : Bool) (n : Nat) : (shutG o v f n).nr := by
  unfold shutG; split
  · split <;> trivial
  · split <;> trivial
theorem shutG_sm (o : List Nat) (v : Nat) (f : Bool) (n : Nat) : (shutG o v f n).sm := by
  unfold shutG; split
  · split <;> trivial
  · split <;> trivial
theorem shutG_dep (o : List Nat) (v : Nat) (f : Bool) (n : Nat) : (shutG o v f n).dep ≤ 0 := by
  unfold shutG; split
  · split <;> exact Nat.le_refl _
  · split <;> exact Nat.le_refl _
end
end K22
end

section
set_option maxRecDepth 100000
namespace K22
open PySem PV Kn
section
variable {h : Hh} {m : Nat}
theorem far_ok {n : Nat} (hn : n < 10 ^ 60) : C (m + 141) n_carried [.tup [.str "cell", .tup [.str "free", .int (n : Int)]]] h = .ok (.tup [.str "cell", .tup [.str "free", .int (n : Int)]]) h ∧ C (m + 141) n__law_same [.tup [.str "cell", .tup [.str "free", .int (n : Int)]], .tup [.str "cell", .tup [.str "free", .int (n : Int)]]] h = .ok (.bl true) h := by
  have g : Ck (10 ^ 60) 0 1 (.un .cel (.free n)) := ⟨⟨by simp [CW], (fun q => by cases q), hn⟩, trivial, by show 1 ≤ 1; omega⟩
  have c : C (m + 141) n_carried [(Kd.un .cel (.free n)).d] h = .ok (Kd.un .cel (.free n)).tn.d h := carried_ok g (by decide +kernel) (by omega) (m + 135) (by omega)
  have s : C (m + 141) n__law_same [(Kd.un .cel (.free n)).tn.d, (Kd.un .cel (.free n)).tn.d] h = .ok (.bl true) h := same_kd g.tn (m + 140) (by omega)
  exact ⟨c, s⟩
/-- what is asked of one cell's kind -/
theorem turn_ok (c : Int) (r0 r2 r3 r4 r5 r6 r7 r8 r9 r10 r11 r12 : Option D) :
    ∃ r2' r3' r4' r5' r6' r7' r8' r9' r10' r11' r12' h', evSs (F (m + 141)) G b_in [r0, some (.int c), r2, r3, r4, r5, r6, r7, r8, r9, r10, r11, r12] h = .nxt [r0, some (.int c), r2', r3', r4', r5', r6', r7', r8', r9', r10', r11', r12'] h' := by
  obtain ⟨h1, e1, i1⟩ := well_ok (k := m + 140) (h := h) c
  have e1 : C (m + 141) n__law_well [.int c] h = .ok (.ref h.length) h1 := e1
  obtain ⟨kind, h2, e2, i2, g⟩ := kind_at i1 4 0 (di := 4) (ui := 0) rfl rfl (m + 139) (by omega) (by omega)
  have e2 : C (m + 141) n__law_kind [.ref h.length, .int 0, .int 4] h1 = .ok kind.d h2 := e2
  have cr : ∀ h' : Hh, C (m + 141) n_carried [kind.d] h' = .ok kind.tn.d h' := fun h' => carried_ok g (by decide +kernel) (by omega) (m + 135) (by omega)
  have lt : ∀ h' : Hh, C (m + 141) n__law_turned [kind.d] h' = .ok kind.tn.d h' := fun h' => lturned_ok kind 0 (m + 140) g.ok g.sm (by have := g.dep; omega)
  have sm : ∀ h' : Hh, C (m + 141) n__law_same [kind.tn.d, kind.tn.d] h' = .ok (.bl true) h' := fun h' => same_kd g.tn (m + 140) (by omega)
  obtain ⟨o1, h3, e3, i3, g3⟩ := kind_at i2 3 0 (di := 3) (ui := 0) rfl rfl (m + 139) (by omega) (by omega)
  have e3 : C (m + 141) n__law_kind [.ref h.length, .int 0, .int 3] h2 = .ok o1.d h3 := e3
  obtain ⟨v, h4, e4, v0, v1, i4⟩ := draw_s (k := m + 140) i3 (many := 4) (by omega) (by omega)
  have e4 : C (m + 141) n__law_draw [.ref h.length, .int 4] h3 = .ok (.int v) h4 := e4
  obtain ⟨other, go, eo⟩ := other_ok g3 g v0 v1
  have co : C (m + 141) n_carried [other.d] h4 = .ok other.tn.d h4 := carried_ok go (by decide +kernel) (by omega) (m + 135) (by omega)
  have q1 := eq_kd (h := h4) ((kd_pn go.tn.ok go.tn.sm go.tn.dep).p64 (by omega)) ((kd_pn g.tn.ok g.tn.sm g.tn.dep).p64 (by omega))
  have q2 := eq_kd (h := h4) ((kd_pn go.ok go.sm go.dep).p64 (by omega)) ((kd_pn g.ok g.sm g.dep).p64 (by omega))
  rw [tn_eqv go.ok g.ok] at q1
  have nn := ne_same (h := h4) (other.d.eqv kind.d)
  obtain ⟨h5, e5, i5⟩ := opens_ok (m := m) i4 g
  have hr : rngOk 0 5 = true := rng_ok (by omega) (by omega)
  have hz : (rngD 0 5).length ≤ 16777216 := by decide +kernel
  obtain ⟨zs, h6, e6, l6, q6, i6⟩ := loop_k (m := m) i5 r0 (some (.int c)) (some kind.d) (some other.d) r5 r6 r7 r8 r9 r10 r11 r12
  have hk : zs.length ≤ 16777216 := by omega
  have gf : Ck 5 0 10 (kind.tr (fillG zs) 0) := by
    have g' : Ck zs.length 0 8 kind := by rw [l6]; exact g
    exact g'.fil q6
  have f1 : C (m + 141) n__law_filled [kind.d, .tup (kds zs)] h6 = .ok (kind.tr (fillG zs) 0).d h6 := lfi_ok kind 0 (m + 140) (by rw [l6]; exact g.ok) g.sm (by have := g.dep; omega)
  have f2 : C (m + 141) n__law_turned [(kind.tr (fillG zs) 0).d] h6 = .ok (kind.tr (fillG zs) 0).tn.d h6 := lturned_ok _ 0 (m + 140) gf.ok gf.sm (by have := gf.dep; omega)
  have f3 : C (m + 141) n_filled [kind.tn.d, .tup (kds (zs.map Kd.tn))] h6 = .ok (kind.tr (fillG zs) 0).tn.d h6 := by
    have := fill_ok (h := h6) (ss := zs.map Kd.tn) kind.tn 0 (m + 138) g.tn.sm (by rw [List.length_map, l6]; exact ok_wk _ g.tn.ok) (by have := g.tn.dep; omega)
    rw [← fillG_tn, ← tn_tr] at this
    exact this
  have f4 : C (m + 141) n__law_same [(kind.tr (fillG zs) 0).tn.d, (kind.tr (fillG zs) 0).tn.d] h6 = .ok (.bl true) h6 := same_kd gf.tn (m + 140) (by omega)
  obtain ⟨v7, h7, e7, v70, v71, i7⟩ := draw_s (k := m + 140) i6 (many := 4) (by omega) (by omega)
  have e7 : C (m + 141) n__law_draw [.ref h.length, .int 4] h6 = .ok (.int v7) h7 := e7
  obtain ⟨o, ol, ob, eo7⟩ := order_ok v70 v71
  have s1 : C (m + 141) n_shut [kind.tn.d, .ftup (nds o)] h7 = .ok (kind.tn.tr (shutG o) 0).d h7 := shut_all (h := h7) (o := o) kind.tn (m + 137) g.tn.sm (by have := g.tn.dep; omega)
  have s2 : C (m + 141) n__law_opened [(kind.tn.tr (shutG o) 0).d, .tup (kds (o.map Kd.free)), .int 0] h7 = .ok kind.tn.d h7 := by
    have := lop_ok (h := h7) (ss := o.map Kd.free) (kind.tn.tr (shutG o) 0) 0 (m + 140) (tr_nr (shutG_nr o) _ _ (tw_nr g.tn.ok)) (tr_sm (shutG_sm o) _ _ g.tn.sm) (by have := tr_dep (shutG_dep o) kind.tn 0; have := g.tn.dep; omega)
    rw [shut_open kind.tn o (ok_wk _ g.tn.ok)] at this
    exact this
  obtain ⟨v8, h8, e8, v80, v81, i8⟩ := draw_ok (k := m + 140) i7 (many := 1000000000000000000000000000000000000000000000000000000000000) (by omega) (by decide +kernel)
  have e8 : C (m + 141) n__law_draw [.ref h.length, .int 1000000000000000000000000000000000000000000000000000000000000] h7 = .ok (.int v8) h8 := e8
  obtain ⟨n, rfl⟩ : ∃ n : Nat, v8 = (n : Int) := ⟨v8.toNat, by omega⟩
  have hn : n < 10 ^ 60 := by
    have : (10 : Nat) ^ 60 = 1000000000000000000000000000000000000000000000000000000000000 := by decide +kernel
    rw [this]; omega
  obtain ⟨w1, w2⟩ := far_ok (m := m) (h := h8) hn
  obtain ⟨x, h9, e9, hx, i9⟩ := no_kind_ok i8 (k := kind.d) (m + 139)
  have e9 : C (m + 141) n__law_no_kind [.ref h.length, kind.d] h8 = .ok x h9 := e9
  have pk := kd_pn g.ok g.sm g.dep
  have e10 : C (m + 141) n__law_is_refused [x] h9 = .ok (.bl true) h9 := refused_ok (dp := 29) (noP pk x hx) (by omega) (m + 134) (by omega) (noK (hd_d kind) x hx)
  have lc := loop_c (m := m) (h := h6) q6
  have lb := loop_b (m := m) (h := h7)
  have lo := loop_o (m := m) (h := h7) ob
  have p60 := fun h => pow60 (h := h)
  have hb5 : ((rngD 0 5).map fr).length ≤ 16777216 := by decide +kernel
  have ho : o.length ≤ 16777216 := by omega
  generalize other.d.eqv kind.d = p at q1 q2 nn
  generalize (kind.tr (fillG zs) 0).tn.d = z1 at f2 f3 f4
  generalize (kind.tr (fillG zs) 0).d = z2 at f1 f2
  generalize (kind.tn.tr (shutG o) 0).d = z3 at s1 s2
  generalize other.tn.d = z4 at co q1
  generalize kind.tn.d = z5 at cr lt sm q1 f3 s1 s2
  refine ⟨some (.ref h.length), some kind.d, some other.d, some (.tup (kds zs)), r6, some z1, r8, some (.ftup (nds o)), some (.lst ((rngD 0 5).map fr)), some z3, some (.tup [.str "cell", .tup [.str "free", .int (n : Int)]]), h9, ?_⟩
  generalize kind.d = z6 at *
  generalize hm : (rngD 0 5).map fr = bk at *
  simp -implicitDefEqProofs [b_in, e1, e2, cr, lt, sm, e3, e4, eo, pmD, co, q1, q2, nn, e5, hr, hz, e6, hk, f1, f2, f3, f4, lc, e7, eo7, lb, hb5, s1, s2, lo, ho, p60, e8, w1, w2, e9, e10]
end
end K22
end

section
set_option maxRecDepth 100000
namespace K22
open PySem PV Kn
section
variable {m : Nat}
def b_lw : Ss := match b_law with
  | .cons a (.cons (.for_ t i _) c) => .cons a (.cons (.for_ t i b_in) c)
  | _ => .nil
theorem b_lw_eq : b_law = b_lw := rfl
theorem law_loop (cs : List Int) (r0 : Option D) (q : List (Option D)) (hq : q.length = 12) (h : Hh) :
    ∃ q' h', forLoop (fun _ => true) (.v 1) (evSs (F (m + 141)) G b_in) (cs.map D.int) (r0 :: q) h = .nxt (r0 :: q') h' ∧ q'.length = 12 := by
  obtain ⟨ρ', h', e, q', rfl, hq'⟩ := forI (t := .v 1) (body := evSs (F (m + 141)) G b_in) (fun _ ρ h => ∃ q, ρ = r0 :: q ∧ q.length = 12) (xs := cs.map D.int) (n := 0) (ρ := r0 :: q) (h := h) ⟨q, rfl, hq⟩ (by
    rintro x hx _ ρ h ⟨q, rfl, hq⟩
    obtain ⟨c, _, rfl⟩ := List.mem_map.mp hx
    obtain ⟨r1, r2, r3, r4, r5, r6, r7, r8, r9, r10, r11, r12, rfl⟩ : ∃ r1 r2 r3 r4 r5 r6 r7 r8 r9 r10 r11 r12, q = [r1, r2, r3, r4, r5, r6, r7, r8, r9, r10, r11, r12] := by
      match q, hq with
      | [r1, r2, r3, r4, r5, r6, r7, r8, r9, r10, r11, r12], _ => exact ⟨_, _, _, _, _, _, _, _, _, _, _, _, rfl⟩
    obtain ⟨r2', r3', r4', r5', r6', r7', r8', r9', r10', r11', r12', h', e⟩ := turn_ok (m := m) (h := h) c r0 r2 r3 r4 r5 r6 r7 r8 r9 r10 r11 r12
    exact ⟨_, _, _, rfl, e, _, rfl, rfl⟩)
  exact ⟨q', h', e, hq'⟩
theorem cut20 (xs : List D) : cutD xs none (some 20) = xs.take 20 := cut_take xs 20
theorem list_fz {h : Hh} (xs : List D) : opBf .list h [.fz xs] = some (.lst xs) := rfl
/-- the law, by the evaluator -/
theorem law_ev (ns : List Int) (hn : ns.length ≤ 63) : ∃ h, C (m + 142) n_law [.fz (ns.map D.int)] [] = .ok (.bl true) h := by
  obtain ⟨c, cs, hc⟩ : ∃ c cs, ns ++ [(0 : Int)] = c :: cs := by cases ns <;> exact ⟨_, _, rfl⟩
  have hl : (c :: cs).length ≤ 64 := by rw [← hc]; simp; omega
  have hm : ns.map D.int ++ [.int 0] = D.int c :: cs.map D.int := by
    have : (ns ++ [(0 : Int)]).map D.int = (c :: cs).map D.int := by rw [hc]
    simpa using this
  obtain ⟨h1, e1, i1⟩ := well_ok (k := m + 140) (h := []) c
  have e1 : C (m + 141) n__law_well [.int c] [] = .ok (.ref 0) h1 := e1
  obtain ⟨h2, e2, i2⟩ := great_ok (m := m) i1
  have e2 : C (m + 141) n__law_great_right [.ref 0] h1 = .ok (.bl true) h2 := e2
  obtain ⟨q', h', e, hq⟩ := law_loop (m := m) ((c :: cs).take 20) (some (.fz (ns.map D.int))) [none, none, none, none, none, none, none, none, none, none, none, none] rfl h2
  have hz : (ns.map D.int).length ≤ 16777215 := by rw [List.length_map]; omega
  rw [List.map_take, List.map_cons] at e
  refine ⟨h', ?_⟩
  rw [C_law, b_lw_eq]
  generalize ns.map D.int = xs at hm e hz
  have a0 : L2.atI (D.int c :: cs.map D.int) 0 = some (.int c) := L2.atI_nat (j := 0) (by simp)
  generalize D.int c :: cs.map D.int = ys at hm e a0
  simp -implicitDefEqProofs [b_lw, list_fz, hz, hm, a0, e1, e2, cut20, e]
end
end K22
end

section
set_option maxRecDepth 100000
set_option maxHeartbeats 0
namespace K22
open PySem PySem.Spec PyProof.Rows L2 PV
def d_is_integer : He.DefD := ⟨("is_integer", none), "is_integer", "is_integer", defArgs (top 4), defBody (top 4), defScope (top 4), [], []⟩
def d_is_tuple_of : He.DefD := ⟨("is_tuple_of", none), "is_tuple_of", "is_tuple_of", defArgs (top 5), defBody (top 5), defScope (top 5), [], []⟩
def d_is_kinds : He.DefD := ⟨("is_kinds", none), "is_kinds", "is_kinds", defArgs (top 9), defBody (top 9), defScope (top 9), [], []⟩
def d_is_pairs : He.DefD := ⟨("is_pairs", none), "is_pairs", "is_pairs", defArgs (top 10), defBody (top 10), defScope (top 10), [], []⟩
def d_has_form : He.DefD := ⟨("has_form", none), "has_form", "has_form", defArgs (top 11), defBody (top 11), defScope (top 11), [], []⟩
def d_is_rising : He.DefD := ⟨("is_rising", none), "is_rising", "is_rising", defArgs (top 12), defBody (top 12), defScope (top 12), [], []⟩
def d_insides : He.DefD := ⟨("insides", none), "insides", "insides", defArgs (top 13), defBody (top 13), defScope (top 13), [], []⟩
def d_binds : He.DefD := ⟨("binds", none), "binds", "binds", defArgs (top 14), defBody (top 14), defScope (top 14), [], []⟩
def d_with_insides : He.DefD := ⟨("with_insides", none), "with_insides", "with_insides", defArgs (top 15), defBody (top 15), defScope (top 15), [], []⟩
def d_is_kind_below : He.DefD := ⟨("is_kind_below", none), "is_kind_below", "is_kind_below", defArgs (top 16), defBody (top 16), defScope (top 16), [], []⟩
def d_is_kind : He.DefD := ⟨("is_kind", none), "is_kind", "is_kind", defArgs (top 17), defBody (top 17), defScope (top 17), [], []⟩
def d_put_below : He.DefD := ⟨("put_below", none), "put_below", "put_below", defArgs (top 18), defBody (top 18), defScope (top 18), [], []⟩
def d_opened : He.DefD := ⟨("opened", none), "opened", "opened", defArgs (top 19), defBody (top 19), defScope (top 19), [], []⟩
def d_shut_below : He.DefD := ⟨("shut_below", none), "shut_below", "shut_below", defArgs (top 20), defBody (top 20), defScope (top 20), [], []⟩
def d_shut : He.DefD := ⟨("shut", none), "shut", "shut", defArgs (top 21), defBody (top 21), defScope (top 21), [], []⟩
def d_filled : He.DefD := ⟨("filled", none), "filled", "filled", defArgs (top 22), defBody (top 22), defScope (top 22), [], []⟩
def d_turned : He.DefD := ⟨("turned", none), "turned", "turned", defArgs (top 25), defBody (top 25), defScope (top 25), [], []⟩
def d_carried : He.DefD := ⟨("carried", none), "carried", "carried", defArgs (top 26), defBody (top 26), defScope (top 26), [], []⟩
def d__law_well : He.DefD := ⟨("_law_well", none), "_law_well", "_law_well", defArgs (top 28), defBody (top 28), defScope (top 28), [], []⟩
def d__law_draw : He.DefD := ⟨("_law_draw", none), "_law_draw", "_law_draw", defArgs (top 29), defBody (top 29), defScope (top 29), [], []⟩
def d__law_same : He.DefD := ⟨("_law_same", none), "_law_same", "_law_same", defArgs (top 30), defBody (top 30), defScope (top 30), [], []⟩
def d__law_opened : He.DefD := ⟨("_law_opened", none), "_law_opened", "_law_opened", defArgs (top 31), defBody (top 31), defScope (top 31), [], []⟩
def d__law_turned : He.DefD := ⟨("_law_turned", none), "_law_turned", "_law_turned", defArgs (top 32), defBody (top 32), defScope (top 32), [], []⟩
def d__law_kind : He.DefD := ⟨("_law_kind", none), "_law_kind", "_law_kind", defArgs (top 33), defBody (top 33), defScope (top 33), [], []⟩
def d__law_filled : He.DefD := ⟨("_law_filled", none), "_law_filled", "_law_filled", defArgs (top 34), defBody (top 34), defScope (top 34), [], []⟩
def d__law_is_refused : He.DefD := ⟨("_law_is_refused", none), "_law_is_refused", "_law_is_refused", defArgs (top 35), defBody (top 35), defScope (top 35), [], []⟩
def d__law_no_kind : He.DefD := ⟨("_law_no_kind", none), "_law_no_kind", "_law_no_kind", defArgs (top 36), defBody (top 36), defScope (top 36), [], []⟩
def d__law_opens_alike : He.DefD := ⟨("_law_opens_alike", none), "_law_opens_alike", "_law_opens_alike", defArgs (top 37), defBody (top 37), defScope (top 37), [], []⟩
def d__law_great_right : He.DefD := ⟨("_law_great_right", none), "_law_great_right", "_law_great_right", defArgs (top 38), defBody (top 38), defScope (top 38), [], []⟩
def d_law : He.DefD := ⟨("law", none), "law", "law", defArgs (top 39), defBody (top 39), defScope (top 39), [], []⟩
def fn : List He.DefD := [d_is_integer, d_is_tuple_of, d_is_kinds, d_is_pairs, d_has_form, d_is_rising, d_insides, d_binds, d_with_insides, d_is_kind_below, d_is_kind, d_put_below, d_opened, d_shut_below, d_shut, d_filled, d_turned, d_carried, d__law_well, d__law_draw, d__law_same, d__law_opened, d__law_turned, d__law_kind, d__law_filled, d__law_is_refused, d__law_no_kind, d__law_opens_alike, d__law_great_right, d_law]
def fa : List He.Fa := [.glo "is_integer", .glo "is_tuple_of", .glo "is_kinds", .glo "is_pairs", .glo "has_form", .glo "is_rising", .glo "insides", .glo "binds", .glo "with_insides", .glo "is_kind_below", .glo "is_kind", .glo "put_below", .glo "opened", .glo "shut_below", .glo "shut", .glo "filled", .glo "turned", .glo "carried", .glo "_law_well", .glo "_law_draw", .glo "_law_same", .glo "_law_opened", .glo "_law_turned", .glo "_law_kind", .glo "_law_filled", .glo "_law_is_refused", .glo "_law_no_kind", .glo "_law_opens_alike", .glo "_law_great_right", .glo "law", .free "abs", .free "all", .free "bool", .free "int", .free "isinstance", .free "len", .free "list", .free "max", .free "range", .free "str", .free "tuple", .free "zip", .int "MOST_BOUND" (10000), .glo "CORE_WORDS", .int "ENDLESS" (10000000000000000000000000000000000000000000000000000000000000000000000000000000000000000000), .glo "InvalidKind", .exc "InvalidKind", .exm "InvalidKind" "InvalidKind" true]
abbrev R0 : PySem.W.OpenRow := PySem.W.OpenLaw.row PySem.Challenge.rw_kindscarried_k22_kinds_carried
def ex (K : PySem.W.Frag) : Bool := He.tupB K "CORE_WORDS" [.str "cell", .str "int", .str "one", .str "rec", .str "row", .str "some", .str "to"]
abbrev hkD : PySem.W.Hook := He.hookX 4 fa fn [] [] ex
def obD (s : PySem.W.SharedT) : He.AlX := He.obsX 4 fa fn [] [] ex (HandSHeadRun.getT s)
theorem obD_eq (s : PySem.W.SharedT) : obD s = hkD.obs s.abs := He.obsX_eq (HandSHeadRun.getT_eq s)
def loose : List PySem.Str := [("is_integer" : PySem.Str), ("is_tuple_of" : PySem.Str), ("is_kinds" : PySem.Str), ("is_pairs" : PySem.Str), ("has_form" : PySem.Str), ("is_rising" : PySem.Str), ("insides" : PySem.Str), ("binds" : PySem.Str), ("with_insides" : PySem.Str), ("is_kind_below" : PySem.Str), ("is_kind" : PySem.Str), ("put_below" : PySem.Str), ("opened" : PySem.Str), ("shut_below" : PySem.Str), ("shut" : PySem.Str), ("filled" : PySem.Str), ("turned" : PySem.Str), ("carried" : PySem.Str), ("_law_well" : PySem.Str), ("_law_draw" : PySem.Str), ("_law_same" : PySem.Str), ("_law_opened" : PySem.Str), ("_law_turned" : PySem.Str), ("_law_kind" : PySem.Str), ("_law_filled" : PySem.Str), ("_law_is_refused" : PySem.Str), ("_law_no_kind" : PySem.Str), ("_law_opens_alike" : PySem.Str), ("_law_great_right" : PySem.Str), ("MOST_BOUND" : PySem.Str), ("CORE_WORDS" : PySem.Str), ("ENDLESS" : PySem.Str), ("InvalidKind" : PySem.Str), ("CarriedError" : PySem.Str)]
theorem run (w : World) : HandSHeadRun.RunEq R0 (PySem.W.view R0.prog [39]) hkD obD 5000 loose w := by
  intro os
  kernel_rfl
end K22
end

section
set_option maxRecDepth 100000
set_option maxHeartbeats 0
namespace K22
open PySem PySem.Spec PyProof.Rows L2 PV
section
variable {h : Heap} {K : PySem.W.Frag} {mg : Str → Option Value}
theorem def_is_integer (X : K.In h) (G : h.Ns mainGlobals mg) (c : He.SaysD fa fn K) : DefOk K mg bs gn xs xm T f_is_integer (defArgs (top 4)) (defBody (top 4)) (defScope (top 4)) := by
  obtain ⟨fd, fu⟩ := c.def_ 0 (d := d_is_integer) rfl
  refine ⟨sc_is_integer, ok_is_integer, _, fd, fu, He.glo_ok X G (c.fact 0 (f := .glo "is_integer") rfl), FunD.bindsN fu fun _ _ _ _ _ _ us hl => match us, hl with | [_], _ => rfl, fun q hq => ?_⟩
  exact absurd hq List.not_mem_nil
theorem def_is_tuple_of (X : K.In h) (G : h.Ns mainGlobals mg) (c : He.SaysD fa fn K) : DefOk K mg bs gn xs xm T f_is_tuple_of (defArgs (top 5)) (defBody (top 5)) (defScope (top 5)) := by
  obtain ⟨fd, fu⟩ := c.def_ 1 (d := d_is_tuple_of) rfl
  refine ⟨sc_is_tuple_of, ok_is_tuple_of, _, fd, fu, He.glo_ok X G (c.fact 1 (f := .glo "is_tuple_of") rfl), FunD.bindsN fu fun _ _ _ _ _ _ us hl => match us, hl with | [_, _], _ => rfl, fun q hq => ?_⟩
  exact absurd hq List.not_mem_nil
theorem def_is_kinds (X : K.In h) (G : h.Ns mainGlobals mg) (c : He.SaysD fa fn K) : DefOk K mg bs gn xs xm T f_is_kinds (defArgs (top 9)) (defBody (top 9)) (defScope (top 9)) := by
  obtain ⟨fd, fu⟩ := c.def_ 2 (d := d_is_kinds) rfl
  refine ⟨sc_is_kinds, ok_is_kinds, _, fd, fu, He.glo_ok X G (c.fact 2 (f := .glo "is_kinds") rfl), FunD.bindsN fu fun _ _ _ _ _ _ us hl => match us, hl with | [_], _ => rfl, fun q hq => ?_⟩
  exact absurd hq List.not_mem_nil
theorem def_is_pairs (X : K.In h) (G : h.Ns mainGlobals mg) (c : He.SaysD fa fn K) : DefOk K mg bs gn xs xm T f_is_pairs (defArgs (top 10)) (defBody (top 10)) (defScope (top 10)) := by
  obtain ⟨fd, fu⟩ := c.def_ 3 (d := d_is_pairs) rfl
  refine ⟨sc_is_pairs, ok_is_pairs, _, fd, fu, He.glo_ok X G (c.fact 3 (f := .glo "is_pairs") rfl), FunD.bindsN fu fun _ _ _ _ _ _ us hl => match us, hl with | [_], _ => rfl, fun q hq => ?_⟩
  exact absurd hq List.not_mem_nil
theorem def_has_form (X : K.In h) (G : h.Ns mainGlobals mg) (c : He.SaysD fa fn K) : DefOk K mg bs gn xs xm T f_has_form (defArgs (top 11)) (defBody (top 11)) (defScope (top 11)) := by
  obtain ⟨fd, fu⟩ := c.def_ 4 (d := d_has_form) rfl
  refine ⟨sc_has_form, ok_has_form, _, fd, fu, He.glo_ok X G (c.fact 4 (f := .glo "has_form") rfl), FunD.bindsN fu fun _ _ _ _ _ _ us hl => match us, hl with | [_], _ => rfl, fun q hq => ?_⟩
  exact absurd hq List.not_mem_nil
theorem def_is_rising (X : K.In h) (G : h.Ns mainGlobals mg) (c : He.SaysD fa fn K) : DefOk K mg bs gn xs xm T f_is_rising (defArgs (top 12)) (defBody (top 12)) (defScope (top 12)) := by
  obtain ⟨fd, fu⟩ := c.def_ 5 (d := d_is_rising) rfl
  refine ⟨sc_is_rising, ok_is_rising, _, fd, fu, He.glo_ok X G (c.fact 5 (f := .glo "is_rising") rfl), FunD.bindsN fu fun _ _ _ _ _ _ us hl => match us, hl with | [_], _ => rfl, fun q hq => ?_⟩
  exact absurd hq List.not_mem_nil
theorem def_insides (X : K.In h) (G : h.Ns mainGlobals mg) (c : He.SaysD fa fn K) : DefOk K mg bs gn xs xm T f_insides (defArgs (top 13)) (defBody (top 13)) (defScope (top 13)) := by
  obtain ⟨fd, fu⟩ := c.def_ 6 (d := d_insides) rfl
  refine ⟨sc_insides, ok_insides, _, fd, fu, He.glo_ok X G (c.fact 6 (f := .glo "insides") rfl), FunD.bindsN fu fun _ _ _ _ _ _ us hl => match us, hl with | [_], _ => rfl, fun q hq => ?_⟩
  exact absurd hq List.not_mem_nil
theorem def_binds (X : K.In h) (G : h.Ns mainGlobals mg) (c : He.SaysD fa fn K) : DefOk K mg bs gn xs xm T f_binds (defArgs (top 14)) (defBody (top 14)) (defScope (top 14)) := by
  obtain ⟨fd, fu⟩ := c.def_ 7 (d := d_binds) rfl
  refine ⟨sc_binds, ok_binds, _, fd, fu, He.glo_ok X G (c.fact 7 (f := .glo "binds") rfl), FunD.bindsN fu fun _ _ _ _ _ _ us hl => match us, hl with | [_], _ => rfl, fun q hq => ?_⟩
  exact absurd hq List.not_mem_nil
theorem def_with_insides (X : K.In h) (G : h.Ns mainGlobals mg) (c : He.SaysD fa fn K) : DefOk K mg bs gn xs xm T f_with_insides (defArgs (top 15)) (defBody (top 15)) (defScope (top 15)) := by
  obtain ⟨fd, fu⟩ := c.def_ 8 (d := d_with_insides) rfl
  refine ⟨sc_with_insides, ok_with_insides, _, fd, fu, He.glo_ok X G (c.fact 8 (f := .glo "with_insides") rfl), FunD.bindsN fu fun _ _ _ _ _ _ us hl => match us, hl with | [_, _], _ => rfl, fun q hq => ?_⟩
  exact absurd hq List.not_mem_nil
theorem def_is_kind_below (X : K.In h) (G : h.Ns mainGlobals mg) (c : He.SaysD fa fn K) : DefOk K mg bs gn xs xm T f_is_kind_below (defArgs (top 16)) (defBody (top 16)) (defScope (top 16)) := by
  obtain ⟨fd, fu⟩ := c.def_ 9 (d := d_is_kind_below) rfl
  refine ⟨sc_is_kind_below, ok_is_kind_below, _, fd, fu, He.glo_ok X G (c.fact 9 (f := .glo "is_kind_below") rfl), FunD.bindsN fu fun _ _ _ _ _ _ us hl => match us, hl with | [_, _, _, _], _ => rfl, fun q hq => ?_⟩
  exact absurd hq List.not_mem_nil
theorem def_is_kind (X : K.In h) (G : h.Ns mainGlobals mg) (c : He.SaysD fa fn K) : DefOk K mg bs gn xs xm T f_is_kind (defArgs (top 17)) (defBody (top 17)) (defScope (top 17)) := by
  obtain ⟨fd, fu⟩ := c.def_ 10 (d := d_is_kind) rfl
  refine ⟨sc_is_kind, ok_is_kind, _, fd, fu, He.glo_ok X G (c.fact 10 (f := .glo "is_kind") rfl), FunD.bindsN fu fun _ _ _ _ _ _ us hl => match us, hl with | [_, _, _], _ => rfl, fun q hq => ?_⟩
  exact absurd hq List.not_mem_nil
theorem def_put_below (X : K.In h) (G : h.Ns mainGlobals mg) (c : He.SaysD fa fn K) : DefOk K mg bs gn xs xm T f_put_below (defArgs (top 18)) (defBody (top 18)) (defScope (top 18)) := by
  obtain ⟨fd, fu⟩ := c.def_ 11 (d := d_put_below) rfl
  refine ⟨sc_put_below, ok_put_below, _, fd, fu, He.glo_ok X G (c.fact 11 (f := .glo "put_below") rfl), FunD.bindsN fu fun _ _ _ _ _ _ us hl => match us, hl with | [_, _, _], _ => rfl, fun q hq => ?_⟩
  exact absurd hq List.not_mem_nil
theorem def_opened (X : K.In h) (G : h.Ns mainGlobals mg) (c : He.SaysD fa fn K) : DefOk K mg bs gn xs xm T f_opened (defArgs (top 19)) (defBody (top 19)) (defScope (top 19)) := by
  obtain ⟨fd, fu⟩ := c.def_ 12 (d := d_opened) rfl
  refine ⟨sc_opened, ok_opened, _, fd, fu, He.glo_ok X G (c.fact 12 (f := .glo "opened") rfl), FunD.bindsN fu fun _ _ _ _ _ _ us hl => match us, hl with | [_, _], _ => rfl, fun q hq => ?_⟩
  exact absurd hq List.not_mem_nil
theorem def_shut_below (X : K.In h) (G : h.Ns mainGlobals mg) (c : He.SaysD fa fn K) : DefOk K mg bs gn xs xm T f_shut_below (defArgs (top 20)) (defBody (top 20)) (defScope (top 20)) := by
  obtain ⟨fd, fu⟩ := c.def_ 13 (d := d_shut_below) rfl
  refine ⟨sc_shut_below, ok_shut_below, _, fd, fu, He.glo_ok X G (c.fact 13 (f := .glo "shut_below") rfl), FunD.bindsN fu fun _ _ _ _ _ _ us hl => match us, hl with | [_, _, _], _ => rfl, fun q hq => ?_⟩
  exact absurd hq List.not_mem_nil
theorem def_shut (X : K.In h) (G : h.Ns mainGlobals mg) (c : He.SaysD fa fn K) : DefOk K mg bs gn xs xm T f_shut (defArgs (top 21)) (defBody (top 21)) (defScope (top 21)) := by
  obtain ⟨fd, fu⟩ := c.def_ 14 (d := d_shut) rfl
  refine ⟨sc_shut, ok_shut, _, fd, fu, He.glo_ok X G (c.fact 14 (f := .glo "shut") rfl), FunD.bindsN fu fun _ _ _ _ _ _ us hl => match us, hl with | [_, _], _ => rfl, fun q hq => ?_⟩
  exact absurd hq List.not_mem_nil
theorem def_filled (X : K.In h) (G : h.Ns mainGlobals mg) (c : He.SaysD fa fn K) : DefOk K mg bs gn xs xm T f_filled (defArgs (top 22)) (defBody (top 22)) (defScope (top 22)) := by
  obtain ⟨fd, fu⟩ := c.def_ 15 (d := d_filled) rfl
  refine ⟨sc_filled, ok_filled, _, fd, fu, He.glo_ok X G (c.fact 15 (f := .glo "filled") rfl), FunD.bindsN fu fun _ _ _ _ _ _ us hl => match us, hl with | [_, _], _ => rfl, fun q hq => ?_⟩
  exact absurd hq List.not_mem_nil
theorem def_turned (X : K.In h) (G : h.Ns mainGlobals mg) (c : He.SaysD fa fn K) : DefOk K mg bs gn xs xm T f_turned (defArgs (top 25)) (defBody (top 25)) (defScope (top 25)) := by
  obtain ⟨fd, fu⟩ := c.def_ 16 (d := d_turned) rfl
  refine ⟨sc_turned, ok_turned, _, fd, fu, He.glo_ok X G (c.fact 16 (f := .glo "turned") rfl), FunD.bindsN fu fun _ _ _ _ _ _ us hl => match us, hl with | [_], _ => rfl, fun q hq => ?_⟩
  exact absurd hq List.not_mem_nil
theorem def_carried (X : K.In h) (G : h.Ns mainGlobals mg) (c : He.SaysD fa fn K) : DefOk K mg bs gn xs xm T f_carried (defArgs (top 26)) (defBody (top 26)) (defScope (top 26)) := by
  obtain ⟨fd, fu⟩ := c.def_ 17 (d := d_carried) rfl
  refine ⟨sc_carried, ok_carried, _, fd, fu, He.glo_ok X G (c.fact 17 (f := .glo "carried") rfl), FunD.bindsN fu fun _ _ _ _ _ _ us hl => match us, hl with | [_], _ => rfl, fun q hq => ?_⟩
  have hq : q ∈ ([(0, ["kind"], [0])] : List (Nat × List Str × List Nat)) := hq
  simp only [List.mem_cons, List.not_mem_nil, or_false] at hq
  rcases hq with rfl
  · exact kw_mk fu rfl fun _ _ _ _ _ _ us ws h1 h2 => match us, ws, h1, h2 with | [], [_], _, _ => rfl
theorem def__law_well (X : K.In h) (G : h.Ns mainGlobals mg) (c : He.SaysD fa fn K) : DefOk K mg bs gn xs xm T f__law_well (defArgs (top 28)) (defBody (top 28)) (defScope (top 28)) := by
  obtain ⟨fd, fu⟩ := c.def_ 18 (d := d__law_well) rfl
  refine ⟨sc__law_well, ok__law_well, _, fd, fu, He.glo_ok X G (c.fact 18 (f := .glo "_law_well") rfl), FunD.bindsN fu fun _ _ _ _ _ _ us hl => match us, hl with | [_], _ => rfl, fun q hq => ?_⟩
  exact absurd hq List.not_mem_nil
theorem def__law_draw (X : K.In h) (G : h.Ns mainGlobals mg) (c : He.SaysD fa fn K) : DefOk K mg bs gn xs xm T f__law_draw (defArgs (top 29)) (defBody (top 29)) (defScope (top 29)) := by
  obtain ⟨fd, fu⟩ := c.def_ 19 (d := d__law_draw) rfl
  refine ⟨sc__law_draw, ok__law_draw, _, fd, fu, He.glo_ok X G (c.fact 19 (f := .glo "_law_draw") rfl), FunD.bindsN fu fun _ _ _ _ _ _ us hl => match us, hl with | [_, _], _ => rfl, fun q hq => ?_⟩
  exact absurd hq List.not_mem_nil
theorem def__law_same (X : K.In h) (G : h.Ns mainGlobals mg) (c : He.SaysD fa fn K) : DefOk K mg bs gn xs xm T f__law_same (defArgs (top 30)) (defBody (top 30)) (defScope (top 30)) := by
  obtain ⟨fd, fu⟩ := c.def_ 20 (d := d__law_same) rfl
  refine ⟨sc__law_same, ok__law_same, _, fd, fu, He.glo_ok X G (c.fact 20 (f := .glo "_law_same") rfl), FunD.bindsN fu fun _ _ _ _ _ _ us hl => match us, hl with | [_, _], _ => rfl, fun q hq => ?_⟩
  exact absurd hq List.not_mem_nil
theorem def__law_opened (X : K.In h) (G : h.Ns mainGlobals mg) (c : He.SaysD fa fn K) : DefOk K mg bs gn xs xm T f__law_opened (defArgs (top 31)) (defBody (top 31)) (defScope (top 31)) := by
  obtain ⟨fd, fu⟩ := c.def_ 21 (d := d__law_opened) rfl
  refine ⟨sc__law_opened, ok__law_opened, _, fd, fu, He.glo_ok X G (c.fact 21 (f := .glo "_law_opened") rfl), FunD.bindsN fu fun _ _ _ _ _ _ us hl => match us, hl with | [_, _, _], _ => rfl, fun q hq => ?_⟩
  exact absurd hq List.not_mem_nil
theorem def__law_turned (X : K.In h) (G : h.Ns mainGlobals mg) (c : He.SaysD fa fn K) : DefOk K mg bs gn xs xm T f__law_turned (defArgs (top 32)) (defBody (top 32)) (defScope (top 32)) := by
  obtain ⟨fd, fu⟩ := c.def_ 22 (d := d__law_turned) rfl
  refine ⟨sc__law_turned, ok__law_turned, _, fd, fu, He.glo_ok X G (c.fact 22 (f := .glo "_law_turned") rfl), FunD.bindsN fu fun _ _ _ _ _ _ us hl => match us, hl with | [_], _ => rfl, fun q hq => ?_⟩
  exact absurd hq List.not_mem_nil
theorem def__law_kind (X : K.In h) (G : h.Ns mainGlobals mg) (c : He.SaysD fa fn K) : DefOk K mg bs gn xs xm T f__law_kind (defArgs (top 33)) (defBody (top 33)) (defScope (top 33)) := by
  obtain ⟨fd, fu⟩ := c.def_ 23 (d := d__law_kind) rfl
  refine ⟨sc__law_kind, ok__law_kind, _, fd, fu, He.glo_ok X G (c.fact 23 (f := .glo "_law_kind") rfl), FunD.bindsN fu fun _ _ _ _ _ _ us hl => match us, hl with | [_, _, _], _ => rfl, fun q hq => ?_⟩
  exact absurd hq List.not_mem_nil
theorem def__law_filled (X : K.In h) (G : h.Ns mainGlobals mg) (c : He.SaysD fa fn K) : DefOk K mg bs gn xs xm T f__law_filled (defArgs (top 34)) (defBody (top 34)) (defScope (top 34)) := by
  obtain ⟨fd, fu⟩ := c.def_ 24 (d := d__law_filled) rfl
  refine ⟨sc__law_filled, ok__law_filled, _, fd, fu, He.glo_ok X G (c.fact 24 (f := .glo "_law_filled") rfl), FunD.bindsN fu fun _ _ _ _ _ _ us hl => match us, hl with | [_, _], _ => rfl, fun q hq => ?_⟩
  exact absurd hq List.not_mem_nil
theorem def__law_is_refused (X : K.In h) (G : h.Ns mainGlobals mg) (c : He.SaysD fa fn K) : DefOk K mg bs gn xs xm T f__law_is_refused (defArgs (top 35)) (defBody (top 35)) (defScope (top 35)) := by
  obtain ⟨fd, fu⟩ := c.def_ 25 (d := d__law_is_refused) rfl
  refine ⟨sc__law_is_refused, ok__law_is_refused, _, fd, fu, He.glo_ok X G (c.fact 25 (f := .glo "_law_is_refused") rfl), FunD.bindsN fu fun _ _ _ _ _ _ us hl => match us, hl with | [_], _ => rfl, fun q hq => ?_⟩
  exact absurd hq List.not_mem_nil
theorem def__law_no_kind (X : K.In h) (G : h.Ns mainGlobals mg) (c : He.SaysD fa fn K) : DefOk K mg bs gn xs xm T f__law_no_kind (defArgs (top 36)) (defBody (top 36)) (defScope (top 36)) := by
  obtain ⟨fd, fu⟩ := c.def_ 26 (d := d__law_no_kind) rfl
  refine ⟨sc__law_no_kind, ok__law_no_kind, _, fd, fu, He.glo_ok X G (c.fact 26 (f := .glo "_law_no_kind") rfl), FunD.bindsN fu fun _ _ _ _ _ _ us hl => match us, hl with | [_, _], _ => rfl, fun q hq => ?_⟩
  exact absurd hq List.not_mem_nil
theorem def__law_opens_alike (X : K.In h) (G : h.Ns mainGlobals mg) (c : He.SaysD fa fn K) : DefOk K mg bs gn xs xm T f__law_opens_alike (defArgs (top 37)) (defBody (top 37)) (defScope (top 37)) := by
  obtain ⟨fd, fu⟩ := c.def_ 27 (d := d__law_opens_alike) rfl
  refine ⟨sc__law_opens_alike, ok__law_opens_alike, _, fd, fu, He.glo_ok X G (c.fact 27 (f := .glo "_law_opens_alike") rfl), FunD.bindsN fu fun _ _ _ _ _ _ us hl => match us, hl with | [_, _], _ => rfl, fun q hq => ?_⟩
  exact absurd hq List.not_mem_nil
theorem def__law_great_right (X : K.In h) (G : h.Ns mainGlobals mg) (c : He.SaysD fa fn K) : DefOk K mg bs gn xs xm T f__law_great_right (defArgs (top 38)) (defBody (top 38)) (defScope (top 38)) := by
  obtain ⟨fd, fu⟩ := c.def_ 28 (d := d__law_great_right) rfl
  refine ⟨sc__law_great_right, ok__law_great_right, _, fd, fu, He.glo_ok X G (c.fact 28 (f := .glo "_law_great_right") rfl), FunD.bindsN fu fun _ _ _ _ _ _ us hl => match us, hl with | [_], _ => rfl, fun q hq => ?_⟩
  exact absurd hq List.not_mem_nil
theorem def_law (X : K.In h) (G : h.Ns mainGlobals mg) (c : He.SaysD fa fn K) : DefOk K mg bs gn xs xm T f_law (defArgs (top 39)) (defBody (top 39)) (defScope (top 39)) := by
  obtain ⟨fd, fu⟩ := c.def_ 29 (d := d_law) rfl
  refine ⟨sc_law, ok_law, _, fd, fu, He.glo_ok X G (c.fact 29 (f := .glo "law") rfl), FunD.bindsN fu fun _ _ _ _ _ _ us hl => match us, hl with | [_], _ => rfl, fun q hq => ?_⟩
  exact absurd hq List.not_mem_nil
theorem tab (X : K.In h) (G : h.Ns mainGlobals mg) (c : He.SaysD fa fn K) : ∀ (f : Nat) (fn : Fn), T[f]? = some fn → ∃ params body scope, DefOk K mg bs gn xs xm T fn params body scope
  | 0, _, e => by obtain rfl := Option.some.inj e; exact ⟨_, _, _, def_is_integer X G c⟩
  | 1, _, e => by obtain rfl := Option.some.inj e; exact ⟨_, _, _, def_is_tuple_of X G c⟩
  | 2, _, e => by obtain rfl := Option.some.inj e; exact ⟨_, _, _, def_is_kinds X G c⟩
  | 3, _, e => by obtain rfl := Option.some.inj e; exact ⟨_, _, _, def_is_pairs X G c⟩
  | 4, _, e => by obtain rfl := Option.some.inj e; exact ⟨_, _, _, def_has_form X G c⟩
  | 5, _, e => by obtain rfl := Option.some.inj e; exact ⟨_, _, _, def_is_rising X G c⟩
  | 6, _, e => by obtain rfl := Option.some.inj e; exact ⟨_, _, _, def_insides X G c⟩
  | 7, _, e => by obtain rfl := Option.some.inj e; exact ⟨_, _, _, def_binds X G c⟩
  | 8, _, e => by obtain rfl := Option.some.inj e; exact ⟨_, _, _, def_with_insides X G c⟩
  | 9, _, e => by obtain rfl := Option.some.inj e; exact ⟨_, _, _, def_is_kind_below X G c⟩
  | 10, _, e => by obtain rfl := Option.some.inj e; exact ⟨_, _, _, def_is_kind X G c⟩
  | 11, _, e => by obtain rfl := Option.some.inj e; exact ⟨_, _, _, def_put_below X G c⟩
  | 12, _, e => by obtain rfl := Option.some.inj e; exact ⟨_, _, _, def_opened X G c⟩
  | 13, _, e => by obtain rfl := Option.some.inj e; exact ⟨_, _, _, def_shut_below X G c⟩
  | 14, _, e => by obtain rfl := Option.some.inj e; exact ⟨_, _, _, def_shut X G c⟩
  | 15, _, e => by obtain rfl := Option.some.inj e; exact ⟨_, _, _, def_filled X G c⟩
  | 16, _, e => by obtain rfl := Option.some.inj e; exact ⟨_, _, _, def_turned X G c⟩
  | 17, _, e => by obtain rfl := Option.some.inj e; exact ⟨_, _, _, def_carried X G c⟩
  | 18, _, e => by obtain rfl := Option.some.inj e; exact ⟨_, _, _, def__law_well X G c⟩
  | 19, _, e => by obtain rfl := Option.some.inj e; exact ⟨_, _, _, def__law_draw X G c⟩
  | 20, _, e => by obtain rfl := Option.some.inj e; exact ⟨_, _, _, def__law_same X G c⟩
  | 21, _, e => by obtain rfl := Option.some.inj e; exact ⟨_, _, _, def__law_opened X G c⟩
  | 22, _, e => by obtain rfl := Option.some.inj e; exact ⟨_, _, _, def__law_turned X G c⟩
  | 23, _, e => by obtain rfl := Option.some.inj e; exact ⟨_, _, _, def__law_kind X G c⟩
  | 24, _, e => by obtain rfl := Option.some.inj e; exact ⟨_, _, _, def__law_filled X G c⟩
  | 25, _, e => by obtain rfl := Option.some.inj e; exact ⟨_, _, _, def__law_is_refused X G c⟩
  | 26, _, e => by obtain rfl := Option.some.inj e; exact ⟨_, _, _, def__law_no_kind X G c⟩
  | 27, _, e => by obtain rfl := Option.some.inj e; exact ⟨_, _, _, def__law_opens_alike X G c⟩
  | 28, _, e => by obtain rfl := Option.some.inj e; exact ⟨_, _, _, def__law_great_right X G c⟩
  | 29, _, e => by obtain rfl := Option.some.inj e; exact ⟨_, _, _, def_law X G c⟩
  | _ + 30, _, e => by cases e
theorem free (X : K.In h) (G : h.Ns mainGlobals mg) (c : He.SaysD fa fn K) : ∀ x ∈ bs, mg x = none := by
  intro x hx
  simp only [bs, List.mem_cons, List.not_mem_nil, or_false] at hx
  rcases hx with rfl | rfl | rfl | rfl | rfl | rfl | rfl | rfl | rfl | rfl | rfl | rfl
  · exact He.free_ok X G (c.fact 30 (f := .free "abs") rfl)
  · exact He.free_ok X G (c.fact 31 (f := .free "all") rfl)
  · exact He.free_ok X G (c.fact 32 (f := .free "bool") rfl)
  · exact He.free_ok X G (c.fact 33 (f := .free "int") rfl)
  · exact He.free_ok X G (c.fact 34 (f := .free "isinstance") rfl)
  · exact He.free_ok X G (c.fact 35 (f := .free "len") rfl)
  · exact He.free_ok X G (c.fact 36 (f := .free "list") rfl)
  · exact He.free_ok X G (c.fact 37 (f := .free "max") rfl)
  · exact He.free_ok X G (c.fact 38 (f := .free "range") rfl)
  · exact He.free_ok X G (c.fact 39 (f := .free "str") rfl)
  · exact He.free_ok X G (c.fact 40 (f := .free "tuple") rfl)
  · exact He.free_ok X G (c.fact 41 (f := .free "zip") rfl)
theorem tupK {x : Str} {vs : List He.Dv} (e : He.tupB K x vs = true) : ∃ (o : Obj) (its : Array Value) (n : Nat), K.lookup (He.ga K x) = some o ∧ o.cls = .type "tuple" ∧ o.data = .seq its n ∧ its.size ≤ sizeLine ∧ Vals (vs.map (He.Dv.v K)) its.toList := by
  rcases He.tupB_ok e (fun _ => none) with (q | ⟨_, q⟩) | q
  · cases q
  · cases q
  · exact q
theorem exs (cx : ex K = true) : He.tupB K "CORE_WORDS" [.str "cell", .str "int", .str "one", .str "rec", .str "row", .str "some", .str "to"] = true := by
  simpa only [ex, Bool.and_eq_true] using cx
theorem glob (X : K.In h) (G0 : h.Ns mainGlobals mg) (c : He.SaysD fa fn K) (cx : ex K = true) : ∀ (i : Nat) (x : Str) (d : D), gn[i]? = some x → G[i]? = some d → ∃ v u, mg x = some u ∧ L2.RelV v u ∧ ∀ J H, RD K J H d v
  | 0, x, d, e1, e2 => by
    cases Option.some.inj e1
    cases Option.some.inj e2
    obtain ⟨t, e⟩ := He.int_ok X G0 (c.fact 42 (f := .int "MOST_BOUND" (10000)) rfl)
    exact ⟨.int (10000), _, e, ⟨_, rfl⟩, fun J H => .int _⟩
  | 1, x, d, e1, e2 => by
    cases Option.some.inj e1
    cases Option.some.inj e2
    have e := He.glo_ok X G0 (c.fact 43 (f := .glo "CORE_WORDS") rfl)
    have t := tupK (exs cx)
    exact ⟨.ref _, _, e, rfl, fun J H => .ktup t (by rw [List.length_map, sizeLine_eq]; decide) (.cons (.str _) (.cons (.str _) (.cons (.str _) (.cons (.str _) (.cons (.str _) (.cons (.str _) (.cons (.str _) .nil)))))))⟩
  | 2, x, d, e1, e2 => by
    cases Option.some.inj e1
    cases Option.some.inj e2
    obtain ⟨t, e⟩ := He.int_ok X G0 (c.fact 44 (f := .int "ENDLESS" (10000000000000000000000000000000000000000000000000000000000000000000000000000000000000000000)) rfl)
    exact ⟨.int (10000000000000000000000000000000000000000000000000000000000000000000000000000000000000000000), _, e, ⟨_, rfl⟩, fun J H => .int _⟩
  | n + 3, x, d, e1, e2 => by first | cases e2 | (simp at e2)
theorem excs (X : K.In h) (G0 : h.Ns mainGlobals mg) (c : He.SaysD fa fn K) : ∀ x ∈ xs, ∃ C, mg x = some (.ref C) ∧ PySem.W.excIn K C He.veBase "ValueError.__new__" = true ∧ PySem.W.keepIn K (.ref C) = true ∧ PySem.W.subIn K (.ref C) (.type "BaseException") = some true ∧ PySem.W.typeIn K (.ref C) = some (.type "type") := by
  intro x hx
  simp only [xs, List.mem_cons, List.not_mem_nil, or_false] at hx
  rcases hx with rfl
  · exact ⟨_, He.glo_ok X G0 (c.fact 45 (f := .glo "InvalidKind") rfl), He.exc_ok (c.fact 46 (f := .exc "InvalidKind") rfl)⟩
theorem exms (X : K.In h) (G0 : h.Ns mainGlobals mg) (c : He.SaysD fa fn K) : ∀ x y b, (x, y, b) ∈ xm → ∃ C C', mg x = some (.ref C) ∧ mg y = some (.ref C') ∧ PySem.W.exmOne K (.ref C) (.ref C') = some b := by
  intro x y b hx
  simp only [xm, List.mem_cons, List.not_mem_nil, or_false, Prod.mk.injEq] at hx
  rcases hx with ⟨rfl, rfl, rfl⟩
  · exact ⟨_, _, He.glo_ok X G0 (c.fact 45 (f := .glo "InvalidKind") rfl), He.glo_ok X G0 (c.fact 45 (f := .glo "InvalidKind") rfl), He.exm_ok (c.fact 47 (f := .exm "InvalidKind" "InvalidKind" true) rfl)⟩
theorem facts {P : Program} {w : World} {a : Addr} (X : K.In h) (G0 : h.Ns mainGlobals mg) (ha : mg ("law" : Str) = some (.ref a)) (c : He.SaysD fa fn K) (cx : ex K = true) :
    ∃ fd : FuncData, (∀ (s : Shared) (v : Value), BindsTo s fd ⟨[v], []⟩ [("script", v)]) ∧ ∀ base : Heap, K.In base → base.Ns mainGlobals mg → FnG P w K mg base 142 a fd ["script"] (spF K mg (callN T G 142) 29 1) := by
  obtain ⟨fd, fu⟩ := c.def_ 29 (d := d_law) rfl
  have e := ha.symm.trans (He.glo_ok X G0 (c.fact 29 (f := .glo "law") rfl))
  cases e
  have b := FunD.bindsA (ps := ["script"]) fu fun _ _ _ _ _ _ us hl => match us, hl with | [_], _ => rfl
  exact ⟨fd, fun s v => b s [v] rfl, fun base _ _ => def_step (fn := f_law) (free X G0 c) (glob X G0 c cx) (excs X G0 c) (exms X G0 c) (tab_ok (tab X G0 c) (free X G0 c) (glob X G0 c cx) (excs X G0 c) (exms X G0 c) 141) rfl sc_law ok_law fu⟩
end
end K22
open PyProof.Rows PySem PySem.W PySem.Calls
theorem PySem.Challenge.cw_kindscarried_k22_kinds_carried_holds : PySem.Challenge.rw_kindscarried_k22_kinds_carried.Holds := by
  w_on; o_law
  refine HandSHeadRun.head_any (r := OpenLaw.row PySem.Challenge.rw_kindscarried_k22_kinds_carried) (q := view (OpenLaw.row PySem.Challenge.rw_kindscarried_k22_kinds_carried).prog [39]) (H := K22.hkD) (ob := K22.obD) (M := 5000) (loose := K22.loose) (d := HandSHeadRun.topDef (OpenLaw.row PySem.Challenge.rw_kindscarried_k22_kinds_carried).prog 39) (kwd := []) K22.obD_eq
    (by kernel_rfl) (fun s => by kernel_rfl) K22.run (by kernel_rfl) (by kernel_rfl) (by kernel_rfl) (by rfl) (by first | assumption | decide +kernel) (by decide +kernel) ⟨rfl, rfl, rfl, rfl, rfl, by decide +kernel⟩ ?hw ?hc
  case hw => w_witness2
  case hc =>
    refine PV.walk_g (l := PySem.Challenge.rw_kindscarried_k22_kinds_carried) (n := 63) (k := 142) (x := "script") rfl (by decide) (by kernel_rfl) ⟨rfl, by decide, by decide⟩ ?F
    intro w mg fa h Y G hmg0
    obtain ⟨K, KX, c⟩ := Y
    have hmg1 : mg ("law" : PySem.Str) = some (.ref fa) := by
      have e : (HandSHeadRun.topDef (OpenLaw.row PySem.Challenge.rw_kindscarried_k22_kinds_carried).prog 39).name = ("law" : PySem.Str) := by kernel_rfl
      rw [← e]
      exact hmg0
    obtain ⟨fd, hb, hF⟩ := K22.facts (P := (PySem.Challenge.rw_kindscarried_k22_kinds_carried).prog) (w := w) KX G hmg1 c.t.d c.more
    exact ⟨K, fd, _, KX, hb, fun H a ns hl hO hS => PV.law_sp (fn := K22.f_law) rfl rfl (fun ns hn => K22.law_ev (m := 0) ns hn) (by decide) H a ns hl hO hS, hF⟩
end
