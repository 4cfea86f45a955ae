import PyProof.Rows.All
import HandS.ForMost
import PyProof.ReprRoads
import HandS.IsInst
import HandS.Zip
import HandS.Conv
import HandS.TupAny
import HandS.Deep
import HandS.Style
import HandS.Wide
import HandS.Flow
import HandS.MapObj
import KE.KDictZip
import KE.GoesMore
import PyProof.EnumMake
import PyProof.TupleOfGen
import HandS.Small
import HandS.Defaults
import HandS.Ends
import HandS.HeadEnd
import PySem.Challenge.RW_kindscarried_k44_kinds_stored_and_of_cod
import PyProof.ReprLen
import KE.KStateDown
import HandS.Words
import HandS.WordsExc
import HandS.Head0
import HandS.Head1
import HandS.Head2
import HandS.HeadHook1
import HandS.HeadHook2
set_option Elab.async false
set_option linter.all false
section
/-! PvA: a small language of Python's pure part (E, S), read off the text, and its evaluator over plain data D and a list of mutable objects. -/
namespace PV
open PySem L2

/-- data: none, truths, ints, texts, tuples, lists that are never changed, mutable objects by number -/
inductive D where
  | non | bl (b : Bool) | int (i : Int) | str (x : Str)
  | tup (xs : List D) | lst (xs : List D) | ref (i : Nat)
  /-- a list that is read and never written: the script -/
  | fz (xs : List D)
  deriving Inhabited
/-- what a mutable object holds -/
inductive O where
  | lst (xs : List D) | dct (kvs : List (Key × D))
  deriving Inhabited
abbrev Hh := List O
structure Xc where
  cls : Nat
  fld : D
inductive R (α : Type) where
  | bad | ok (a : α) (h : Hh) | err (x : Xc) (h : Hh)
def R.bind {α β : Type} (r : R α) (f : α → Hh → R β) : R β := match r with
  | .bad => .bad
  | .ok a h => f a h
  | .err x h => .err x h
@[simp] theorem R.bind_ok {α β : Type} (a : α) (h : Hh) (f : α → Hh → R β) : (R.ok a h).bind f = f a h := rfl
@[simp] theorem R.bind_bad {α β : Type} (f : α → Hh → R β) : (R.bad : R α).bind f = .bad := rfl
@[simp] theorem R.bind_err {α β : Type} (x : Xc) (h : Hh) (f : α → Hh → R β) : (R.err x h : R α).bind f = .err x h := rfl
theorem R.bind_assoc {α β γ : Type} (r : R α) (f : α → Hh → R β) (g : β → Hh → R γ) : (r.bind f).bind g = r.bind fun a h => (f a h).bind g := by cases r <;> rfl
def R.opt {α : Type} (o : Option α) (h : Hh) : R α := match o with
  | some a => .ok a h
  | none => .bad
@[simp] theorem R.opt_some {α : Type} (a : α) (h : Hh) : R.opt (some a) h = .ok a h := rfl
@[simp] theorem R.opt_none {α : Type} (h : Hh) : R.opt (none : Option α) h = .bad := rfl

/-! ### data -/
mutual
def D.eqv : D → D → Bool
  | .non, .non => true
  | .bl a, .bl b => a == b
  | .bl a, .int j => (if a then 1 else 0) == j
  | .int i, .bl b => i == (if b then 1 else 0)
  | .int i, .int j => i == j
  | .str x, .str y => decide (x = y)
  | .lst xs, .lst ys => D.eqvs xs ys
  | .tup xs, .tup ys => D.eqvs xs ys
  | _, _ => false
def D.eqvs : List D → List D → Bool
  | [], [] => true
  | x :: xs, y :: ys => D.eqv x y && D.eqvs xs ys
  | _, _ => false
end
mutual
/-- data that == and in are told of: no mutable object in it, plain signs -/
def D.lay : D → Bool
  | .non => true
  | .bl _ => true
  | .int _ => true
  | .str x => PyData.strOk x
  | .tup xs => D.lays xs
  | .lst xs => D.lays xs
  | .ref _ => false
  | .fz _ => false
def D.lays : List D → Bool
  | [] => true
  | x :: xs => D.lay x && D.lays xs
end
mutual
def D.dep : D → Nat
  | .tup xs => D.deps xs + 1
  | .lst xs => D.deps xs + 1
  | _ => 0
def D.deps : List D → Nat
  | [] => 0
  | x :: xs => max (D.dep x) (D.deps xs)
end
def D.shp (d : D) : Bool := d.lay && decide (d.dep ≤ 64)
mutual
/-- the very same -/
def D.same : D → D → Bool
  | .non, .non => true
  | .bl a, .bl b => a == b
  | .int i, .int j => i == j
  | .str x, .str y => decide (x = y)
  | .lst xs, .lst ys => D.sames xs ys
  | .tup xs, .tup ys => D.sames xs ys
  | .ref i, .ref j => i == j
  | .fz xs, .fz ys => D.sames xs ys
  | _, _ => false
def D.sames : List D → List D → Bool
  | [], [] => true
  | x :: xs, y :: ys => D.same x y && D.sames xs ys
  | _, _ => false
end
mutual
/-- no object from n on in it -/
def D.rlt (n : Nat) : D → Bool
  | .ref i => decide (i < n)
  | .tup xs => D.rlts n xs
  | .lst xs => D.rlts n xs
  | .fz xs => D.rlts n xs
  | _ => true
def D.rlts (n : Nat) : List D → Bool
  | [] => true
  | x :: xs => D.rlt n x && D.rlts n xs
end
def O.rlt (n : Nat) : O → Bool
  | .lst xs => D.rlts n xs
  | .dct kvs => kvs.all fun p => p.2.rlt n
def Hh.rlt (h : Hh) (n : Nat) : Bool := h.all (O.rlt n)

mutual
/-- data as the library's data -/
def D.py : D → PyData
  | .non => .none
  | .bl b => .bool b
  | .int i => .int i
  | .str x => .str x
  | .tup xs => .tuple (D.pys xs)
  | .lst xs => .list (D.pys xs)
  | .ref _ => .none
  | .fz _ => .none
def D.pys : List D → List PyData
  | [] => []
  | x :: xs => D.py x :: D.pys xs
end
/-- a mutable list, seen as it stands -/
def D.res (h : Hh) : D → D
  | .ref i => match h[i]? with
    | some (.lst xs) => .lst xs
    | _ => .ref i
  | .fz xs => .lst xs
  | d => d
/-- a list that + and * take -/
def D.own (h : Hh) : D → Option (List D)
  | .lst xs => some xs
  | .ref i => match h[i]? with
    | some (.lst xs) => some xs
    | _ => none
  | _ => none
def D.seq (h : Hh) : D → Option (List D)
  | .tup xs => some xs
  | .lst xs => some xs
  | .fz xs => some xs
  | .ref i => match h[i]? with
    | some (.lst xs) => some xs
    | _ => none
  | _ => none
def D.key : D → Option Key
  | .int i => some (.inl i)
  | .str x => some (.inr x)
  | _ => none
def D.tru (h : Hh) : D → Option Bool
  | .non => some false
  | .bl b => some b
  | .int i => some (i != 0)
  | .str x => if x.length ≤ sizeLine then some ((x.length : Int) != 0) else none
  | .tup xs => some (!xs.isEmpty)
  | .lst xs => some (!xs.isEmpty)
  | .fz xs => some (!xs.isEmpty)
  | .ref i => match h[i]? with
    | some (.lst xs) => some (!xs.isEmpty)
    | some (.dct kvs) => some (!kvs.isEmpty)
    | none => none
def D.isNon : D → Bool
  | .non => true
  | _ => false
def D.eqBl (b : Bool) : D → Bool
  | .bl a => a == b
  | _ => false
def D.isInt : D → Option Int
  | .int i => some i
  | _ => none
def D.isBl : D → Option Bool
  | .bl b => some b
  | _ => none

inductive BOp where | add | sub | mul | fdiv | mod | pow
inductive COp where | eq | ne | lt | le | gt | ge | inn | nin | is | isn
inductive Ty where | int | str | tup | lst | bl | dct | non
inductive Bf where | len | int | abs | tuple | list | max2 | min2 | sum | all | any | sorted | repr
inductive Mt where | append | pop | popAt | index | count

def mulOk (i j : Int) : Bool := decide (i.natAbs.log2 + j.natAbs.log2 < 1000000) || decide (-(2 ^ 64) < i ∧ i < 2 ^ 64) || decide (-(2 ^ 64) < j ∧ j < 2 ^ 64)
def powOk (i j : Int) : Bool := decide (0 ≤ j) && decide (j ≤ 1000000) && decide (i.natAbs < 2 ^ 64)
def sizeOk (n : Nat) : Bool := decide (n ≤ 16777216)
def cutD (xs : List D) (lo hi : Option Int) : List D := (xs.drop (HT.sIx xs.length 0 lo)).take (HT.sIx xs.length xs.length hi - HT.sIx xs.length 0 lo)

def opBin (o : BOp) (h : Hh) (x y : D) : Option D := match o with
  | .add => match x, y with
    | .int i, .int j => some (.int (i + j))
    | .str a, .str b => if sizeOk (a.length + b.length) then some (.str (a ++ b)) else none
    | .tup xs, .tup ys => if sizeOk (xs.length + ys.length) then some (.tup (xs ++ ys)) else none
    | x, y => match x.own h, y.own h with
      | some xs, some ys => if sizeOk (xs.length + ys.length) then some (.lst (xs ++ ys)) else none
      | _, _ => none
  | .sub => match x, y with
    | .int i, .int j => some (.int (i - j))
    | _, _ => none
  | .mul => match x, y with
    | .int i, .int j => if mulOk i j then some (.int (i * j)) else none
    | x, .int j => match x.own h with
      | some xs => if 0 ≤ j ∧ j ≤ 16777216 ∧ sizeOk (xs.length * j.toNat) then some (.lst (List.replicate j.toNat xs).flatten) else none
      | _ => none
    | _, _ => none
  | .fdiv => match x, y with
    | .int i, .int j => if 0 < j ∧ j < 1073741824 then some (.int (i / j)) else none
    | _, _ => none
  | .mod => match x, y with
    | .int i, .int j => if 0 < j then some (.int (i % j)) else none
    | _, _ => none
  | .pow => match x, y with
    | .int i, .int j => if powOk i j then some (.int (i ^ j.toNat)) else none
    | _, _ => none
/-- x op= y of ints and texts -/
def augOp (o : BOp) (x y : D) : Option D := match o with
  | .add => match x, y with
    | .int i, .int j => some (.int (i + j))
    | .str a, .str b => if sizeOk (a.length + b.length) then some (.str (a ++ b)) else none
    | _, _ => none
  | .sub => match x, y with
    | .int i, .int j => some (.int (i - j))
    | _, _ => none
  | .mul => none
  | .fdiv => match x, y with
    | .int i, .int j => if 0 < j ∧ j < 1073741824 then some (.int (i / j)) else none
    | _, _ => none
  | .mod => match x, y with
    | .int i, .int j => if 0 < j then some (.int (i % j)) else none
    | _, _ => none
  | .pow => none
def opEq (h : Hh) (x y : D) : Option Bool := match x, y with
  | .str a, .str b => some (decide (a = b))
  | x, y => if (x.res h).shp && (y.res h).shp then some ((x.res h).eqv (y.res h)) else none
def valD (kvs : List (Key × D)) (k : Key) : Option D := (kvs.find? fun kv => decide (kv.1 = k)).map (·.2)
def putD (kvs : List (Key × D)) (k : Key) (v : D) : List (Key × D) :=
  if (kvs.any fun kv => decide (kv.1 = k)) = true
  then kvs.map (fun kv => if kv.1 = k then (kv.1, v) else kv) else kvs ++ [(k, v)]
def dropD (kvs : List (Key × D)) (k : Key) : List (Key × D) := kvs.filter fun kv => decide (kv.1 ≠ k)
def hasKey (k : Key) (kvs : List (Key × D)) : Bool := (valD kvs k).isSome
def opIn (h : Hh) (x y : D) : Option Bool := match y with
  | .ref i => match h[i]? with
    | some (.lst ys) => if x.shp && (D.lst ys).shp then some (ys.any fun y => y.eqv x) else none
    | some (.dct kvs) => match x.key with
      | some k => some (hasKey k kvs)
      | none => none
    | none => none
  | .lst ys => if x.shp && (D.lst ys).shp then some (ys.any fun y => y.eqv x) else none
  | .tup ys => if x.shp && (D.tup ys).shp then some (ys.any fun y => y.eqv x) else none
  | _ => none
def opCmp (o : COp) (h : Hh) (x y : D) : Option Bool := match o with
  | .eq => opEq h x y
  | .ne => (opEq h x y).map (!·)
  | .lt => match x, y with
    | .int i, .int j => some (decide (i < j))
    | _, _ => none
  | .le => match x, y with
    | .int i, .int j => some (decide (i ≤ j))
    | _, _ => none
  | .gt => match x, y with
    | .int i, .int j => some (decide (j < i))
    | _, _ => none
  | .ge => match x, y with
    | .int i, .int j => some (decide (j ≤ i))
    | _, _ => none
  | .inn => opIn h x y
  | .nin => (opIn h x y).map (!·)
  | .is => match y with
    | .non => some x.isNon
    | .bl b => some (x.eqBl b)
    | _ => none
  | .isn => match y with
    | .non => some (!x.isNon)
    | .bl b => some (!x.eqBl b)
    | _ => none
def opIdx (h : Hh) (x y : D) : Option D := match x, y with
  | .tup xs, .int i => atI xs i
  | .lst xs, .int i => atI xs i
  | .fz xs, .int i => atI xs i
  | .ref r, y => match h[r]?, y with
    | some (.lst xs), .int i => atI xs i
    | some (.dct kvs), y => match y.key with
      | some k => valD kvs k
      | none => none
    | _, _ => none
  | _, _ => none
def opSlc (h : Hh) (x : D) (l u : Option Int) : Option D := match x with
  | .tup xs => some (.tup (cutD xs l u))
  | x => match x.res h with
    | .lst xs => some (.lst (cutD xs l u))
    | _ => none
def opIsi (t : Ty) (h : Hh) (x : D) : Bool := match t, x with
  | .int, .int _ => true
  | .int, .bl _ => true
  | .bl, .bl _ => true
  | .non, .non => true
  | .str, .str _ => true
  | .tup, .tup _ => true
  | .lst, .lst _ => true
  | .lst, .fz _ => true
  | .lst, .ref i => match h[i]? with | some (.lst _) => true | _ => false
  | .dct, .ref i => match h[i]? with | some (.dct _) => true | _ => false
  | _, _ => false
def D.ints : List D → Option (List Int)
  | [] => some []
  | .int i :: r => (D.ints r).map (i :: ·)
  | _ => none
def D.bls : List D → Option (List Bool)
  | [] => some []
  | .bl b :: r => (D.bls r).map (b :: ·)
  | _ => none
def D.lstOf : D → Option (List D)
  | .lst xs => some xs
  | _ => none
def bfLen (h : Hh) : List D → Option D
  | [.tup ys] => some (.int ys.length)
  | [.lst ys] => some (.int ys.length)
  | [.fz ys] => some (.int ys.length)
  | [.str x] => if x.length ≤ sizeLine then some (.int x.length) else none
  | [.ref i] => match h[i]? with
    | some (.lst ys) => some (.int ys.length)
    | some (.dct kvs) => some (.int kvs.length)
    | none => none
  | _ => none
def bfInt : List D → Option D
  | [.int i] => some (.int i)
  | [.bl b] => some (.int (if b then 1 else 0))
  | _ => none
def bfAbs : List D → Option D
  | [.int i] => some (.int (if i < 0 then -i else i))
  | _ => none
def bfTuple (h : Hh) : List D → Option D
  | [x] => (x.seq h).map D.tup
  | _ => none
def bfList (h : Hh) : List D → Option D
  | [x] => (x.seq h).map D.lst
  | _ => none
def bfMax : List D → Option D
  | [.int i, .int j] => some (.int (if j > i then j else i))
  | _ => none
def bfMin : List D → Option D
  | [.int i, .int j] => some (.int (if j < i then j else i))
  | _ => none
def bfSum (h : Hh) : List D → Option D
  | [x] => ((x.res h).lstOf.bind D.ints).map fun ns => .int ns.sum
  | _ => none
def bfAll (h : Hh) : List D → Option D
  | [x] => ((x.res h).lstOf.bind D.bls).map fun bs => .bl (bs.all id)
  | _ => none
def bfAny (h : Hh) : List D → Option D
  | [x] => ((x.res h).lstOf.bind D.bls).map fun bs => .bl (bs.any id)
  | _ => none
def D.isSeq : D → Bool
  | .tup _ => true
  | .lst _ => true
  | _ => false
def reprD (d : D) : Option D := if d.isSeq && d.shp && d.py.showable && decide (d.py.shown.length ≤ 16777216) then some (.str d.py.shown) else none
def bfRepr (h : Hh) : List D → Option D
  | [x] => reprD (x.res h)
  | _ => none
def opBf (f : Bf) (h : Hh) (xs : List D) : Option D := match f with
  | .len => bfLen h xs
  | .int => bfInt xs
  | .abs => bfAbs xs
  | .tuple => bfTuple h xs
  | .list => bfList h xs
  | .max2 => bfMax xs
  | .min2 => bfMin xs
  | .sum => bfSum h xs
  | .all => bfAll h xs
  | .any => bfAny h xs
  | .sorted => none
  | .repr => bfRepr h xs

/-! ### the syntax -/
mutual
inductive E where
  | var (i : Nat) | con (d : D) | glo (i : Nat) | miss
  | tup (es : Es) | lst (es : Es) | new (e : E) | dic0
  | bin (o : BOp) (a b : E) | neg (a : E)
  | cmp (o : COp) (a b : E) | chain (o p : COp) (a b c : E)
  | and (a : E) (r : Es) | or (a : E) (r : Es) | not (a : E) | ite (c a b : E)
  | idx (a i : E) | slc (a lo hi : E)
  | call (f : Nat) (es : Es) | callK (f : Nat) (es kes : Es) (ks : List Nat)
  | bf (f : Bf) (es : Es) | isi (a : E) (t : Ty)
  | mth (m : Mt) (o : E) (es : Es)
  | lc (t : Tg) (it : I) (c e : E)
  | tenum (a : E)
inductive Es where
  | nil | cons (e : E) (es : Es)
inductive I where
  | ev (e : E) | rng (n : E) | rng2 (a b : E) | zip (a b : E) | enum (a : E)
inductive Tg where
  | v (i : Nat) | tu (is : List Nat)
end
def E.isMiss : E → Bool
  | .miss => true
  | _ => false
mutual
inductive S where
  | asg (i : Nat) (e : E) | asgLc (i : Nat) (e : E) | par (i j : Nat) (a b : E) | unp (is : List Nat) (e : E)
  | sto (o i e : E) | aug (i : Nat) (o : BOp) (e : E) | augL (i : Nat) (e : E)
  | exp (e : E) | ret (e : E) | retN
  | ite (c : E) (a b : Ss) | whl (c : E) (b : Ss) | for_ (t : Tg) (it : I) (b : Ss)
  | pass | brk | cnt | gc (ks : List Nat) (b : S)
inductive Ss where
  | nil | cons (s : S) (ss : Ss)
end
abbrev Env := List (Option D)
abbrev Fns := Nat → List D → Hh → R D

/-! ### the evaluator -/
/-- the items, and the object that they are read off -/
structure Src where
  items : List D
  off : Option Nat
def Src.good (s : Src) (h : Hh) : Bool := match s.off with
  | none => true
  | some i => match h[i]? with
    | some (.lst xs) => D.sames xs s.items
    | _ => false
def D.src (h : Hh) : D → Option Src
  | .tup xs => some ⟨xs, none⟩
  | .lst xs => some ⟨xs, none⟩
  | .fz xs => some ⟨xs, none⟩
  | .ref i => match h[i]? with
    | some (.lst xs) => some ⟨xs, some i⟩
    | _ => none
  | _ => none
def rngOk (a b : Int) : Bool := decide (-(2 ^ 62) ≤ a) && decide (a < 2 ^ 62) && decide (-(2 ^ 62) ≤ b) && decide (b < 2 ^ 62)
def rngD (a b : Int) : List D := (List.range (b - a).toNat).map fun k => .int (a + (k : Nat))
def zipD (xs ys : List D) : List D := List.zipWith (fun x y => .tup [x, y]) xs ys
def enumD (n : Nat) : List D → List D
  | [] => []
  | x :: xs => .tup [.int n, x] :: enumD (n + 1) xs
def tenumOp : D → Option D
  | .tup xs => if sizeOk xs.length then some (.tup (enumD 0 xs)) else none
  | _ => none
def zipSrc : D → D → Option Src
  | .tup xs, .tup ys => some ⟨zipD xs ys, none⟩
  | .lst xs, .lst ys => some ⟨zipD xs ys, none⟩
  | _, _ => none
def enumSrc : D → Option Src
  | .lst xs => some ⟨enumD 0 xs, none⟩
  | _ => none
def setAll : List Nat → List D → Env → Option Env
  | [], [], ρ => some ρ
  | i :: is, x :: xs, ρ => setAll is xs (ρ.set i (some x))
  | _, _, _ => none
def Tg.put (t : Tg) (x : D) (ρ : Env) : Option Env := match t with
  | .v i => some (ρ.set i (some x))
  | .tu is => match x with
    | .tup xs => setAll is xs ρ
    | _ => none
def Tg.slots : Tg → List Nat
  | .v i => [i]
  | .tu is => is
/-- the loop of a comprehension -/
def lcLoop (good : Hh → Bool) (turn : D → Hh → R (Option D)) : List D → List D → Hh → R D
  | [], acc, h => if good h then .ok (.lst acc) h else .bad
  | x :: xs, acc, h => if good h then (match turn x h with
    | .ok (some y) h' => lcLoop good turn xs (acc ++ [y]) h'
    | .ok none h' => lcLoop good turn xs acc h'
    | _ => .bad) else .bad
def newObj (d : D) (h : Hh) : R D := match d with
  | .lst xs => .ok (.ref h.length) (h ++ [.lst xs])
  | _ => .bad
def mtAppend (ys : List D) : List D → Option (D × List D)
  | [x] => if sizeOk (ys.length + 1) then some (.non, ys ++ [x]) else none
  | _ => none
def mtPop (ys : List D) : List D → Option (D × List D)
  | [] => (ys[ys.length - 1]?).map fun y => (y, ys.dropLast)
  | _ => none
def mtPopAt (ys : List D) : List D → Option (D × List D)
  | [.int k] => (ixN ys.length k).bind fun j => (ys[j]?).map fun y => (y, ys.eraseIdx j)
  | _ => none
def mtL (m : Mt) (ys xs : List D) : Option (D × List D) := match m with
  | .append => mtAppend ys xs
  | .pop => mtPop ys xs
  | .popAt => mtPopAt ys xs
  | .index => none
  | .count => none
def mthRef (m : Mt) (i : Nat) (xs : List D) (h : Hh) : R D := match h[i]? with
  | some (.lst ys) => match mtL m ys xs with
    | some p => .ok p.1 (h.set i (.lst p.2))
    | none => .bad
  | _ => .bad
def mthOp (m : Mt) (o : D) (xs : List D) (h : Hh) : R D := match o with
  | .ref i => mthRef m i xs h
  | _ => .bad
/-- positional and keyword arguments in the parameters' order -/
def pmD {α : Type} (d : α) (ks : List Nat) (xs ys : List α) : List α := ks.map fun k => (xs ++ ys).getD k d
def D.isL (h : Hh) : D → Bool
  | .ref i => match h[i]? with
    | some (.lst _) => true
    | _ => false
  | .lst _ => true
  | .fz _ => true
  | _ => false
/-- what an expression does: as a value, as a test -/
structure P where
  v : Env → Hh → R D
  t : Env → Hh → R Bool
def P.plain (v : Env → Hh → R D) : P := ⟨v, fun ρ h => (v ρ h).bind fun x h1 => R.opt (x.tru h1) h1⟩
/-- .. a row of expressions: their values, and, or of them as a value, as a test -/
structure PL where
  nil : Bool
  l : Env → Hh → R (List D)
  an : Env → Hh → R D
  on : Env → Hh → R D
  at_ : Env → Hh → R Bool
  ot : Env → Hh → R Bool
/-- a slice's part -/
def vPart (m : Bool) (p : P) (ρ : Env) (h : Hh) : R (Option Int) := if m then .ok none h else (p.v ρ h).bind fun d h1 => R.opt (d.isInt.map some) h1
/-- one turn of a comprehension -/
def lcTurn (t : Tg) (c e : P) (ρ : Env) (x : D) (h : Hh) : R (Option D) := match t.put x ρ with
  | none => .bad
  | some ρ' => (c.t ρ' h).bind fun ok h3 => if ok then (e.v ρ' h3).bind fun y h4 => .ok (some y) h4 else .ok none h3
def vBl (x : D) (h : Hh) : R Bool := R.opt x.isBl h
section
variable (F : Fns) (G : List D)
mutual
def evE : E → P
  | .var i => .plain fun ρ h => match ρ[i]? with
    | some (some d) => .ok d h
    | _ => .bad
  | .con d => .plain fun _ h => .ok d h
  | .glo i => .plain fun _ h => R.opt G[i]? h
  | .miss => ⟨fun _ h => .ok .non h, fun _ h => .ok true h⟩
  | .tup es => .plain fun ρ h => ((evEs es).l ρ h).bind fun xs h1 => if sizeOk xs.length then .ok (.tup xs) h1 else .bad
  | .lst es => .plain fun ρ h => ((evEs es).l ρ h).bind fun xs h1 => if sizeOk xs.length then .ok (.lst xs) h1 else .bad
  | .new e => .plain fun ρ h => ((evE e).v ρ h).bind newObj
  | .dic0 => .plain fun _ h => .ok (.ref h.length) (h ++ [.dct []])
  | .bin o a b => .plain fun ρ h => ((evE a).v ρ h).bind fun x h1 => ((evE b).v ρ h1).bind fun y h2 => R.opt (opBin o h2 x y) h2
  | .neg a => .plain fun ρ h => ((evE a).v ρ h).bind fun x h1 => R.opt (x.isInt.map fun i => .int (-i)) h1
  | .cmp o a b => .plain fun ρ h => ((evE a).v ρ h).bind fun x h1 => ((evE b).v ρ h1).bind fun y h2 => R.opt ((opCmp o h2 x y).map D.bl) h2
  | .chain o p a b c => .plain fun ρ h => ((evE a).v ρ h).bind fun x h1 => ((evE b).v ρ h1).bind fun y h2 => (R.opt (opCmp o h2 x y) h2).bind fun t h3 =>
      if t then ((evE c).v ρ h3).bind fun z h4 => R.opt ((opCmp p h4 y z).map D.bl) h4 else .ok (.bl false) h3
  | .and a r => ⟨fun ρ h => ((evE a).v ρ h).bind fun x h1 => (vBl x h1).bind fun t h2 => if t then (evEs r).an ρ h2 else .ok (.bl false) h2,
      fun ρ h => ((evE a).t ρ h).bind fun t h1 => if t then (evEs r).at_ ρ h1 else .ok false h1⟩
  | .or a r => ⟨fun ρ h => ((evE a).v ρ h).bind fun x h1 => (vBl x h1).bind fun t h2 => if t then .ok (.bl true) h2 else (evEs r).on ρ h2,
      fun ρ h => ((evE a).t ρ h).bind fun t h1 => if t then .ok true h1 else (evEs r).ot ρ h1⟩
  | .not a => ⟨fun ρ h => ((evE a).v ρ h).bind fun x h1 => (vBl x h1).bind fun t h2 => .ok (.bl (!t)) h2,
      fun ρ h => ((evE a).t ρ h).bind fun t h1 => .ok (!t) h1⟩
  | .ite c a b => ⟨fun ρ h => ((evE c).t ρ h).bind fun t h1 => if t then (evE a).v ρ h1 else (evE b).v ρ h1,
      fun ρ h => ((evE c).t ρ h).bind fun t h1 => if t then (evE a).t ρ h1 else (evE b).t ρ h1⟩
  | .idx a i => .plain fun ρ h => ((evE a).v ρ h).bind fun x h1 => ((evE i).v ρ h1).bind fun y h2 => R.opt (opIdx h2 x y) h2
  | .slc a lo hi => .plain fun ρ h => ((evE a).v ρ h).bind fun x h1 => (vPart lo.isMiss (evE lo) ρ h1).bind fun l h2 => (vPart hi.isMiss (evE hi) ρ h2).bind fun u h3 => R.opt (opSlc h3 x l u) h3
  | .call f es => .plain fun ρ h => ((evEs es).l ρ h).bind fun xs h1 => F f xs h1
  | .callK f es kes ks => .plain fun ρ h => ((evEs es).l ρ h).bind fun xs h1 => ((evEs kes).l ρ h1).bind fun ys h2 => F f (pmD .non ks xs ys) h2
  | .bf f es => .plain fun ρ h => ((evEs es).l ρ h).bind fun xs h1 => R.opt (opBf f h1 xs) h1
  | .isi a t => .plain fun ρ h => ((evE a).v ρ h).bind fun x h1 => .ok (.bl (opIsi t h1 x)) h1
  | .mth m o es => .plain fun ρ h => ((evE o).v ρ h).bind fun x h1 => if x.isL h1 then ((evEs es).l ρ h1).bind fun xs h2 => mthOp m x xs h2 else .bad
  | .lc t it c e => .plain fun ρ h => (evI it ρ h).bind fun s h1 => if sizeOk s.items.length then lcLoop s.good (lcTurn t (evE c) (evE e) ρ) s.items [] h1 else .bad
  | .tenum a => .plain fun ρ h => ((evE a).v ρ h).bind fun x h1 => R.opt (tenumOp x) h1
def evEs : Es → PL
  | .nil => ⟨true, fun _ h => .ok [] h, fun _ _ => .bad, fun _ _ => .bad, fun _ _ => .bad, fun _ _ => .bad⟩
  | .cons e es => ⟨false,
      fun ρ h => ((evE e).v ρ h).bind fun x h1 => ((evEs es).l ρ h1).bind fun xs h2 => .ok (x :: xs) h2,
      fun ρ h => if (evEs es).nil then (evE e).v ρ h else ((evE e).v ρ h).bind fun x h1 => (vBl x h1).bind fun t h2 => if t then (evEs es).an ρ h2 else .ok (.bl false) h2,
      fun ρ h => if (evEs es).nil then (evE e).v ρ h else ((evE e).v ρ h).bind fun x h1 => (vBl x h1).bind fun t h2 => if t then .ok (.bl true) h2 else (evEs es).on ρ h2,
      fun ρ h => if (evEs es).nil then (evE e).t ρ h else ((evE e).t ρ h).bind fun t h1 => if t then (evEs es).at_ ρ h1 else .ok false h1,
      fun ρ h => if (evEs es).nil then (evE e).t ρ h else ((evE e).t ρ h).bind fun t h1 => if t then .ok true h1 else (evEs es).ot ρ h1⟩
def evI : I → Env → Hh → R Src
  | .ev e, ρ, h => ((evE e).v ρ h).bind fun x h1 => R.opt (x.src h1) h1
  | .rng n, ρ, h => ((evE n).v ρ h).bind fun x h1 => R.opt (x.isInt.bind fun n => if rngOk 0 n then some ⟨rngD 0 n, none⟩ else none) h1
  | .rng2 a b, ρ, h => ((evE a).v ρ h).bind fun x h1 => ((evE b).v ρ h1).bind fun y h2 => R.opt (x.isInt.bind fun i => y.isInt.bind fun j => if rngOk i j then some ⟨rngD i j, none⟩ else none) h2
  | .zip a b, ρ, h => ((evE a).v ρ h).bind fun x h1 => ((evE b).v ρ h1).bind fun y h2 => R.opt (zipSrc x y) h2
  | .enum a, ρ, h => ((evE a).v ρ h).bind fun x h1 => R.opt (enumSrc x) h1
end

/-! ### statements -/
inductive RS where
  | bad | nxt (ρ : Env) (h : Hh) | ret (d : D) (h : Hh) | brk (ρ : Env) (h : Hh) | cnt (ρ : Env) (h : Hh) | err (x : Xc) (h : Hh)
def R.then_ {α : Type} (r : R α) (f : α → Hh → RS) : RS := match r with
  | .bad => .bad
  | .ok a h => f a h
  | .err x h => .err x h
@[simp] theorem R.then_ok {α : Type} (a : α) (h : Hh) (f : α → Hh → RS) : (R.ok a h).then_ f = f a h := rfl
@[simp] theorem R.then_bad {α : Type} (f : α → Hh → RS) : (R.bad : R α).then_ f = .bad := rfl
def RS.then_ (r : RS) (f : Env → Hh → RS) : RS := match r with
  | .nxt ρ h => f ρ h
  | r => r
def RS.opt (o : Option Env) (h : Hh) : RS := match o with
  | some ρ => .nxt ρ h
  | none => .bad
def whlLoop (c : Env → Hh → R Bool) (b : Env → Hh → RS) : Nat → Env → Hh → RS
  | 0, _, _ => .bad
  | n + 1, ρ, h => (c ρ h).then_ fun t h1 => if t then (match b ρ h1 with
      | .nxt ρ' h' => whlLoop c b n ρ' h'
      | .cnt ρ' h' => whlLoop c b n ρ' h'
      | .brk ρ' h' => .nxt ρ' h'
      | r => r) else .nxt ρ h1
def forLoop (good : Hh → Bool) (t : Tg) (b : Env → Hh → RS) : List D → Env → Hh → RS
  | [], ρ, h => if good h then .nxt ρ h else .bad
  | x :: xs, ρ, h => if good h then (match t.put x ρ with
      | none => .bad
      | some ρ1 => match b ρ1 h with
        | .nxt ρ' h' => forLoop good t b xs ρ' h'
        | .cnt ρ' h' => forLoop good t b xs ρ' h'
        | .brk ρ' h' => .nxt ρ' h'
        | r => r) else .bad
/-- so many turns a while may take -/
def wfuel : Nat := 2 ^ 64
def kill : List Nat → Env → Env
  | [], ρ => ρ
  | i :: is, ρ => kill is (ρ.set i none)
def Env.rlt (n : Nat) (ρ : Env) : Bool := ρ.all fun o => match o with
  | some d => d.rlt n
  | none => true
/-- names forgotten, then the objects from n on, if nothing leads to them -/
def gcS (ks : List Nat) (n : Nat) (r : RS) : RS := match r with
  | .nxt ρ h => if Env.rlt n (kill ks ρ) && Hh.rlt (h.take n) n then .nxt (kill ks ρ) (h.take n) else .bad
  | .brk ρ h => if Env.rlt n (kill ks ρ) && Hh.rlt (h.take n) n then .brk (kill ks ρ) (h.take n) else .bad
  | .cnt ρ h => if Env.rlt n (kill ks ρ) && Hh.rlt (h.take n) n then .cnt (kill ks ρ) (h.take n) else .bad
  | r => r
def stoOp (o i x : D) (h : Hh) : Option Hh := match o with
  | .ref r => match h[r]? with
    | some (.lst ys) => match i with
      | .int k => match ixN ys.length k with
        | some j => some (h.set r (.lst (ys.set j x)))
        | none => none
      | _ => none
    | some (.dct kvs) => match i.key with
      | some k => if sizeOk (kvs.length + 1) then some (h.set r (.dct (putD kvs k x))) else none
      | none => none
    | none => none
  | _ => none
mutual
def evS : S → Env → Hh → RS
  | .asg i e, ρ, h => ((evE F G e).v ρ h).then_ fun x h1 => .nxt (ρ.set i (some x)) h1
  | .asgLc i e, ρ, h => ((evE F G e).v ρ h).then_ fun x h1 => .nxt (ρ.set i (some x)) h1
  | .par i j a b, ρ, h => ((evE F G a).v ρ h).then_ fun x h1 => ((evE F G b).v ρ h1).then_ fun y h2 => .nxt ((ρ.set i (some x)).set j (some y)) h2
  | .unp is e, ρ, h => ((evE F G e).v ρ h).then_ fun x h1 => RS.opt ((Tg.tu is).put x ρ) h1
  | .sto o i e, ρ, h => ((evE F G e).v ρ h).then_ fun x h1 => ((evE F G o).v ρ h1).then_ fun y h2 => ((evE F G i).v ρ h2).then_ fun z h3 => match stoOp y z x h3 with
    | some h4 => .nxt ρ h4
    | none => .bad
  | .aug i o e, ρ, h => match ρ[i]? with
    | some (some x) => ((evE F G e).v ρ h).then_ fun y h1 => match augOp o x y with
      | some z => .nxt (ρ.set i (some z)) h1
      | none => .bad
    | _ => .bad
  | .augL i e, ρ, h => match ρ[i]? with
    | some (some (.ref r)) => ((evE F G e).v ρ h).then_ fun y h1 => match h1[r]?, y.seq h1 with
      | some (.lst xs), some ys => if sizeOk (xs.length + ys.length) then .nxt ρ (h1.set r (.lst (xs ++ ys))) else .bad
      | _, _ => .bad
    | _ => .bad
  | .exp e, ρ, h => ((evE F G e).v ρ h).then_ fun _ h1 => .nxt ρ h1
  | .ret e, ρ, h => ((evE F G e).v ρ h).then_ fun x h1 => .ret x h1
  | .retN, _, h => .ret .non h
  | .ite c a b, ρ, h => ((evE F G c).t ρ h).then_ fun t h1 => if t then evSs a ρ h1 else evSs b ρ h1
  | .whl c b, ρ, h => whlLoop (evE F G c).t (evSs b) wfuel ρ h
  | .for_ t it b, ρ, h => (evI F G it ρ h).then_ fun s h1 => forLoop s.good t (evSs b) s.items ρ h1
  | .pass, ρ, h => .nxt ρ h
  | .brk, ρ, h => .brk ρ h
  | .cnt, ρ, h => .cnt ρ h
  | .gc ks b, ρ, h => gcS ks h.length (evS b ρ h)
def evSs : Ss → Env → Hh → RS
  | .nil, ρ, h => .nxt ρ h
  | .cons s ss, ρ, h => (evS s ρ h).then_ (evSs ss)
end
end

/-! ### defs -/
structure Fn where
  name : Str
  N : List Str
  P : List Str
  frz : Bool
  body : Ss
  /-- the shapes of its calls with keywords: so many in front, these names, the order -/
  kw : List (Nat × List Str × List Nat) := []
/-- the objects from n on, as they stand -/
def D.frz (h : Hh) (n : Nat) : Nat → D → D
  | 0, d => d
  | k + 1, d => match d with
    | .ref i => if i < n then .ref i else match h[i]? with
      | some (.lst xs) => .lst (xs.map (D.frz h n k))
      | _ => .ref i
    | .tup xs => .tup (xs.map (D.frz h n k))
    | .lst xs => .lst (xs.map (D.frz h n k))
    | d => d
/-- a def's end: its lists are from now on never changed (frz), what it made is let go -/
def finD (f : Bool) (n : Nat) (d : D) (h : Hh) : R D :=
  if f then (if (d.frz h n 4).rlt n && Hh.rlt (h.take n) n then .ok (d.frz h n 4) (h.take n) else .bad) else .ok d h
def finR (f : Bool) (n : Nat) (r : RS) : R D := match r with
  | .ret d h => finD f n d h
  | .nxt _ h => finD f n .non h
  | _ => .bad
def callN (T : List Fn) (G : List D) : Nat → Fns
  | 0 => fun _ _ _ => .bad
  | k + 1 => fun f args h => match T[f]? with
    | none => .bad
    | some fn => if args.length = fn.P.length then finR fn.frz h.length (evSs (callN T G k) G fn.body (args.map some ++ List.replicate (fn.N.length - args.length) none) h) else .bad
end PV
end

section
set_option maxRecDepth 100000
namespace PV
open L2 PySem PySem.Spec PyProof.Rows

/-- where the mutable objects stand; addresses that no data may name -/
structure Jn where
  l : List Addr
  z : List Addr
section
variable (K : PySem.W.Frag)
mutual
/-- data as it lies in the heap -/
inductive RD (J : Jn) (H : Hp) : D → V → Prop
  | non : RD J H .non .non
  | bl (b : Bool) : RD J H (.bl b) (.bl b)
  | int (i : Int) : RD J H (.int i) (.int i)
  | str (x : Str) : RD J H (.str x) (.str x)
  | tup {a : Addr} {ds : List D} {vs : List V} : a ∉ J.l → a ∉ J.z → H a = some (.tup vs) → vs.length ≤ sizeLine → RDs J H ds vs → RD J H (.tup ds) (.ref a)
  | ktup {a : Addr} {ds : List D} {vs : List V} (k : ∃ (o : Obj) (its : Array Value) (n : Nat), K.lookup a = some o ∧ o.cls = .type "tuple" ∧ o.data = .seq its n ∧ its.size ≤ sizeLine ∧ Vals vs its.toList) : vs.length ≤ sizeLine → RDs J H ds vs → RD J H (.tup ds) (.ref a)
  | lst {a : Addr} {ds : List D} {vs : List V} : a ∉ J.l → a ∉ J.z → H a = some (.lst vs) → vs.length ≤ sizeLine → RDs J H ds vs → RD J H (.lst ds) (.ref a)
  | ref {i : Nat} {a : Addr} : J.l[i]? = some a → RD J H (.ref i) (.ref a)
  | fz {a : Addr} {o : Obj} {ds : List D} {vs : List V} : a ∉ J.l → a ∉ J.z → H a = some (.frz o (.lst vs)) → vs.length ≤ sizeLine → RDs J H ds vs → RD J H (.fz ds) (.ref a)
  | kfz {a : Addr} {ds : List D} {vs : List V} (k : ∃ (o : Obj) (its : Array Value) (n : Nat), K.lookup a = some o ∧ o.cls = .type "list" ∧ o.dict = none ∧ o.data = .seq its n ∧ its.size ≤ sizeLine ∧ Vals vs its.toList) : vs.length ≤ sizeLine → RDs J H ds vs → RD J H (.fz ds) (.ref a)
inductive RDs (J : Jn) (H : Hp) : List D → List V → Prop
  | nil : RDs J H [] []
  | cons {d : D} {ds : List D} {v : V} {vs : List V} : RD J H d v → RDs J H ds vs → RDs J H (d :: ds) (v :: vs)
end
inductive RO (J : Jn) (H : Hp) : O → HO → Prop
  | lst {ds : List D} {vs : List V} : vs.length ≤ sizeLine → RDs K J H ds vs → RO J H (.lst ds) (.lst vs)
  | dct {kvs : List (Key × D)} {kws : List (Key × V)} : kws.length ≤ sizeLine → Paired (fun p q => p.1 = q.1 ∧ RD K J H p.2 q.2) kvs kws → RO J H (.dct kvs) (.dK kws)
structure RH (J : Jn) (h : Hh) (H : Hp) : Prop where
  nd : J.l.Nodup
  len : J.l.length = h.length
  obj : ∀ (i : Nat) (o : O), h[i]? = some o → ∃ a u, J.l[i]? = some a ∧ H a = some u ∧ RO K J H o u
  apart : ∀ a ∈ J.z, a ∉ J.l
  zed : ∀ a ∈ J.z, H a ≠ none
end
/-- what stood, stands, but for the mutable objects; the new ones were not there -/
structure Ext (J : Jn) (H : Hp) (J' : Jn) (H' : Hp) : Prop where
  z : J'.z = J.z
  pre : ∃ m, J'.l = J.l ++ m ∧ ∀ a ∈ m, H a = none
  keep : ∀ a o, a ∉ J.l → H a = some o → H' a = some o

section
variable {K : PySem.W.Frag} {J J' J2 : Jn} {H H' H2 : Hp} {h h' : Hh} {d : D} {v : V} {ds : List D} {vs : List V}
theorem RDs.length (r : RDs K J H ds vs) : ds.length = vs.length := by
  induction ds generalizing vs with
  | nil => cases r; rfl
  | cons d ds ih => cases r with | cons _ t => simp [ih t]
theorem RDs.get : ∀ {ds : List D} {vs : List V} {i : Nat} {d : D}, RDs K J H ds vs → ds[i]? = some d → ∃ v, vs[i]? = some v ∧ RD K J H d v
  | _, _, _, _, .nil, e => (by simp at e)
  | _, _, 0, _, .cons r _, e => (by simp at e; subst e; exact ⟨_, rfl, r⟩)
  | _, _, i + 1, _, .cons _ t, e => by
    obtain ⟨v, h1, h2⟩ := RDs.get (i := i) t (by simpa using e)
    exact ⟨v, by simpa using h1, h2⟩
theorem RDs.getV : ∀ {ds : List D} {vs : List V} {i : Nat} {v : V}, RDs K J H ds vs → vs[i]? = some v → ∃ d, ds[i]? = some d ∧ RD K J H d v
  | _, _, _, _, .nil, e => (by simp at e)
  | _, _, 0, _, .cons r _, e => (by simp at e; subst e; exact ⟨_, rfl, r⟩)
  | _, _, i + 1, _, .cons _ t, e => by
    obtain ⟨v, h1, h2⟩ := RDs.getV (i := i) t (by simpa using e)
    exact ⟨v, by simpa using h1, h2⟩
theorem RDs.append : ∀ {ds es : List D} {vs ws : List V}, RDs K J H ds vs → RDs K J H es ws → RDs K J H (ds ++ es) (vs ++ ws)
  | _, _, _, _, .nil, s => s
  | _, _, _, _, .cons r t, s => .cons r (RDs.append t s)
theorem RDs.take : ∀ {ds : List D} {vs : List V} (n : Nat), RDs K J H ds vs → RDs K J H (ds.take n) (vs.take n)
  | _, _, 0, _ => by simp; exact .nil
  | _, _, _ + 1, .nil => .nil
  | _, _, n + 1, .cons r t => .cons r (RDs.take n t)
theorem RDs.drop : ∀ {ds : List D} {vs : List V} (n : Nat), RDs K J H ds vs → RDs K J H (ds.drop n) (vs.drop n)
  | _, _, 0, r => r
  | _, _, _ + 1, .nil => .nil
  | _, _, n + 1, .cons _ t => RDs.drop n t
theorem RDs.set : ∀ {ds : List D} {vs : List V} (i : Nat) {d : D} {v : V}, RD K J H d v → RDs K J H ds vs → RDs K J H (ds.set i d) (vs.set i v)
  | _, _, _, _, _, _, .nil => .nil
  | _, _, 0, _, _, r, .cons _ t => .cons r t
  | _, _, i + 1, _, _, r, .cons q t => .cons q (RDs.set i r t)
theorem RDs.eraseIdx : ∀ {ds : List D} {vs : List V} (i : Nat), RDs K J H ds vs → RDs K J H (ds.eraseIdx i) (vs.eraseIdx i)
  | _, _, _, .nil => .nil
  | _, _, 0, .cons _ t => t
  | _, _, i + 1, .cons q t => .cons q (RDs.eraseIdx i t)
theorem RDs.dropLast (r : RDs K J H ds vs) : RDs K J H ds.dropLast vs.dropLast := by
  rw [List.dropLast_eq_take, List.dropLast_eq_take, r.length]
  exact r.take _
theorem RDs.replicate (r : RDs K J H ds vs) : ∀ n : Nat, RDs K J H (List.replicate n ds).flatten (List.replicate n vs).flatten
  | 0 => .nil
  | n + 1 => by
    (rw [List.replicate_succ, List.replicate_succ, List.flatten_cons, List.flatten_cons])
    exact r.append (RDs.replicate r n)

theorem Ext.refl : Ext J H J H := ⟨rfl, ⟨[], by simp, by simp⟩, fun _ _ _ e => e⟩
theorem Ext.notin (e : Ext J H J' H') {a : Addr} {o : HO} (n : a ∉ J.l) (q : H a = some o) : a ∉ J'.l := by
  obtain ⟨m, hm, f⟩ := e.pre
  rw [hm]
  intro hm
  rcases List.mem_append.mp hm with z | z
  · exact n z
  · rw [f a z] at q; cases q
theorem Ext.get (e : Ext J H J' H') {i : Nat} {a : Addr} (q : J.l[i]? = some a) : J'.l[i]? = some a := by
  obtain ⟨m, hm, _⟩ := e.pre
  have hl : i < J.l.length := (List.getElem?_eq_some_iff.mp q).1
  rw [hm, List.getElem?_append_left hl]; exact q
mutual
theorem RD.ext (e : Ext J H J' H') : ∀ {d : D} {v : V}, RD K J H d v → RD K J' H' d v
  | _, _, .non => .non
  | _, _, .bl b => .bl b
  | _, _, .int i => .int i
  | _, _, .str x => .str x
  | _, _, .tup n m q z r => .tup (e.notin n q) (by rw [e.z]; exact m) (e.keep _ _ n q) z (RDs.ext e r)
  | _, _, .ktup k z r => .ktup k z (RDs.ext e r)
  | _, _, .lst n m q z r => .lst (e.notin n q) (by rw [e.z]; exact m) (e.keep _ _ n q) z (RDs.ext e r)
  | _, _, .ref q => .ref (e.get q)
  | _, _, .fz n m q z r => .fz (e.notin n q) (by rw [e.z]; exact m) (e.keep _ _ n q) z (RDs.ext e r)
  | _, _, .kfz k z r => .kfz k z (RDs.ext e r)
theorem RDs.ext (e : Ext J H J' H') : ∀ {ds : List D} {vs : List V}, RDs K J H ds vs → RDs K J' H' ds vs
  | _, _, .nil => .nil
  | _, _, .cons r t => .cons (RD.ext e r) (RDs.ext e t)
end
theorem RO.ext (e : Ext J H J' H') {o : O} {u : HO} (r : RO K J H o u) : RO K J' H' o u := by
  cases r with
  | lst z r => exact .lst z (r.ext e)
  | dct z r => exact .dct z (Paired.mapP r fun p q x => ⟨x.1, x.2.ext e⟩)
/-- the same data under other sets of addresses -/
structure Sub (J : Jn) (H : Hp) (J' : Jn) (H' : Hp) : Prop where
  l : ∀ a o, a ∉ J.l → a ∉ J.z → H a = some o → a ∉ J'.l ∧ a ∉ J'.z ∧ H' a = some o
  get : ∀ (i : Nat) a, J.l[i]? = some a → J'.l[i]? = some a
mutual
theorem RD.sub (e : Sub J H J' H') : ∀ {d : D} {v : V}, RD K J H d v → RD K J' H' d v
  | _, _, .non => .non
  | _, _, .bl b => .bl b
  | _, _, .int i => .int i
  | _, _, .str x => .str x
  | _, _, .tup n m q z r => .tup (e.l _ _ n m q).1 (e.l _ _ n m q).2.1 (e.l _ _ n m q).2.2 z (RDs.sub e r)
  | _, _, .ktup k z r => .ktup k z (RDs.sub e r)
  | _, _, .lst n m q z r => .lst (e.l _ _ n m q).1 (e.l _ _ n m q).2.1 (e.l _ _ n m q).2.2 z (RDs.sub e r)
  | _, _, .ref q => .ref (e.get _ _ q)
  | _, _, .fz n m q z r => .fz (e.l _ _ n m q).1 (e.l _ _ n m q).2.1 (e.l _ _ n m q).2.2 z (RDs.sub e r)
  | _, _, .kfz k z r => .kfz k z (RDs.sub e r)
theorem RDs.sub (e : Sub J H J' H') : ∀ {ds : List D} {vs : List V}, RDs K J H ds vs → RDs K J' H' ds vs
  | _, _, .nil => .nil
  | _, _, .cons r t => .cons (RD.sub e r) (RDs.sub e t)
end
theorem RO.sub (e : Sub J H J' H') {o : O} {u : HO} (r : RO K J H o u) : RO K J' H' o u := by
  cases r with
  | lst z r => exact .lst z (r.sub e)
  | dct z r => exact .dct z (Paired.mapP r fun p q x => ⟨x.1, x.2.sub e⟩)
theorem RH.at (r : RH K J h H) {i : Nat} {a : Addr} (q : J.l[i]? = some a) : ∃ o u, h[i]? = some o ∧ H a = some u ∧ RO K J H o u := by
  have hl : i < h.length := by rw [← r.len]; exact (List.getElem?_eq_some_iff.mp q).1
  obtain ⟨a', u, h1, h2, h3⟩ := r.obj i h[i] (List.getElem?_eq_getElem hl)
  rw [q] at h1; cases h1
  exact ⟨_, u, List.getElem?_eq_getElem hl, h2, h3⟩
theorem RH.inl (r : RH K J h H) {a : Addr} (hm : a ∈ J.l) : ∃ u, H a = some u := by
  obtain ⟨i, hi⟩ := List.mem_iff_getElem?.mp hm
  obtain ⟨o, u, _, h2, _⟩ := r.at hi
  exact ⟨u, h2⟩
theorem RH.notin (r : RH K J h H) {a : Addr} (q : H a = none) : a ∉ J.l := fun hm => by
  obtain ⟨u, h2⟩ := r.inl hm
  rw [q] at h2; cases h2
theorem RH.notz (r : RH K J h H) {a : Addr} (q : H a = none) : a ∉ J.z := fun hm => r.zed a hm q
theorem Ext.trans (r : RH K J h H) (r1 : RH K J' h' H') (e : Ext J H J' H') (e2 : Ext J' H' J2 H2) : Ext J H J2 H2 := by
  obtain ⟨m, hm, f⟩ := e.pre
  obtain ⟨m2, hm2, f2⟩ := e2.pre
  refine ⟨e2.z.trans e.z, ⟨m ++ m2, by rw [hm2, hm, List.append_assoc], fun a ha => ?_⟩, fun a o n q => e2.keep a o (e.notin n q) (e.keep a o n q)⟩
  rcases List.mem_append.mp ha with z | z
  · exact f a z
  · cases q : H a with
    | none => rfl
    | some u =>
      exfalso
      by_cases n : a ∈ J.l
      · obtain ⟨u', h2⟩ := r1.inl (a := a) (by rw [hm]; exact List.mem_append_left _ n)
        rw [f2 a z] at h2; cases h2
      · have := e.keep a u n q
        rw [f2 a z] at this; cases this
/-- a new thing that no object holds -/
theorem Ext.laid {p : Addr} {o : HO} (n : H p = none) : Ext J H J (upd H p o) :=
  ⟨rfl, ⟨[], by simp, by simp⟩, fun a u _ q => by rw [upd_ne (ne_of_none q n)]; exact q⟩
theorem RH.laid {p : Addr} {o : HO} (r : RH K J h H) (n : H p = none) : RH K J h (upd H p o) :=
  ⟨r.nd, r.len, fun i ob e => by
    obtain ⟨a, u, h1, h2, h3⟩ := r.obj i ob e
    exact ⟨a, u, h1, by rw [upd_ne (ne_of_none h2 n)]; exact h2, h3.ext (Ext.laid n)⟩, r.apart, fun a ha => by
    by_cases z : a = p
    · subst z; rw [upd_same]; simp
    · rw [upd_ne z]; exact r.zed a ha⟩
/-- a new thing, hidden -/
abbrev Jn.hide (J : Jn) (p : Addr) : Jn := ⟨J.l, p :: J.z⟩
abbrev Jn.own (J : Jn) (p : Addr) : Jn := ⟨J.l ++ [p], J.z⟩
theorem Sub.hide {p : Addr} (n : H p = none) : Sub J H (J.hide p) H :=
  ⟨fun a o x y q => ⟨x, fun hm => (List.mem_cons.mp hm).elim (fun z => by subst z; rw [n] at q; cases q) y, q⟩, fun _ _ q => q⟩
theorem RH.hide {p : Addr} {o : HO} (r : RH K J h H) (n : H p = none) : RH K (J.hide p) h (upd H p o) := by
  have r2 := r.laid (o := o) n
  refine ⟨r.nd, r.len, fun i ob e => ?_, fun a ha => ?_, fun a ha => ?_⟩
  · obtain ⟨a, u, h1, h2, h3⟩ := r.obj i ob e
    exact ⟨a, u, h1, by rw [upd_ne (ne_of_none h2 n)]; exact h2, (h3.sub (Sub.hide n)).ext (Ext.laid n)⟩
  · rcases List.mem_cons.mp ha with z | z
    · subst z; exact r.notin n
    · exact r.apart a z
  · rcases List.mem_cons.mp ha with z | z
    · subst z; rw [upd_same]; simp
    · exact r2.zed a z
/-- a hidden thing is shown -/
theorem Sub.show_ {p : Addr} : Sub (J.hide p) H J H := ⟨fun a o x y q => ⟨x, fun hm => y (List.mem_cons_of_mem _ hm), q⟩, fun _ _ q => q⟩
theorem RH.show_ {p : Addr} (r : RH K (J.hide p) h H) : RH K J h H :=
  ⟨r.nd, r.len, fun i ob e => let ⟨a, u, h1, h2, h3⟩ := r.obj i ob e; ⟨a, u, h1, h2, h3.sub Sub.show_⟩, fun a ha => r.apart a (List.mem_cons_of_mem _ ha), fun a ha => r.zed a (List.mem_cons_of_mem _ ha)⟩
/-- .. becomes an object -/
theorem Sub.own {p : Addr} : Sub (J.hide p) H (J.own p) H :=
  ⟨fun a o x y q => ⟨fun hm => (List.mem_append.mp hm).elim x fun z => y (by simp at z; subst z; exact List.mem_cons_self), fun hm => y (List.mem_cons_of_mem _ hm), q⟩,
   fun i a q => by show (J.l ++ [p])[i]? = _; rw [List.getElem?_append_left (List.getElem?_eq_some_iff.mp q).1]; exact q⟩
theorem RH.own {p : Addr} {o : O} {u : HO} (r : RH K (J.hide p) h H) (np : p ∉ J.z) (q : H p = some u) (ro : RO K (J.hide p) H o u) : RH K (J.own p) (h ++ [o]) H := by
  have n : p ∉ J.l := r.apart p List.mem_cons_self
  refine ⟨?_, by show (J.l ++ [p]).length = _; rw [List.length_append, List.length_append, r.len]; rfl, fun i ob e => ?_, fun a ha hm => ?_, fun a ha => r.zed a (List.mem_cons_of_mem _ ha)⟩
  · show (J.l ++ [p]).Nodup
    exact List.nodup_append.mpr ⟨r.nd, by simp, fun a ha b hb => by simp at hb; rw [hb]; rintro rfl; exact n ha⟩
  · have hll : J.l.length = h.length := r.len
    by_cases hi : i < h.length
    · rw [List.getElem?_append_left hi] at e
      obtain ⟨a, w, h1, h2, h3⟩ := r.obj i ob e
      have h1 : J.l[i]? = some a := h1
      exact ⟨a, w, by show (J.l ++ [p])[i]? = _; rw [List.getElem?_append_left (by omega)]; exact h1, h2, h3.sub Sub.own⟩
    · have hi2 : i = h.length := by
        have := (List.getElem?_eq_some_iff.mp e).1
        simp at this; omega
      subst hi2
      rw [List.getElem?_append_right (Nat.le_refl _)] at e
      simp at e; subst e
      exact ⟨p, u, by show (J.l ++ [p])[_]? = _; rw [← hll, List.getElem?_append_right (Nat.le_refl _)]; simp, q, ro.sub Sub.own⟩
  · rcases List.mem_append.mp hm with z | z
    · exact r.apart a (List.mem_cons_of_mem _ ha) z
    · simp at z; subst z; exact np ha
theorem Ext.own {p : Addr} (n : H p = none) (e : Ext J H J' H') : Ext J H (J'.own p) H' := by
  obtain ⟨m, hm, f⟩ := e.pre
  refine ⟨e.z, ⟨m ++ [p], by show J'.l ++ [p] = _; rw [hm, List.append_assoc], fun a ha => ?_⟩, e.keep⟩
  rcases List.mem_append.mp ha with z | z
  · exact f a z
  · simp at z; rw [z]; exact n
/-- a hidden thing is written -/
theorem Sub.writeZ {p : Addr} {u : HO} (hp : p ∈ J.z) : Sub J H J (upd H p u) :=
  ⟨fun a o x y q => ⟨x, y, by rw [upd_ne (show a ≠ p by rintro rfl; exact y hp)]; exact q⟩, fun _ _ q => q⟩
theorem RH.writeZ {p : Addr} {u : HO} (r : RH K J h H) (hp : p ∈ J.z) : RH K J h (upd H p u) :=
  ⟨r.nd, r.len, fun i ob e => by
    obtain ⟨a, w, h1, h2, h3⟩ := r.obj i ob e
    refine ⟨a, w, h1, ?_, h3.sub (Sub.writeZ hp)⟩
    rw [upd_ne]; exact h2
    rintro rfl; exact r.apart _ hp (List.mem_of_getElem? h1), r.apart, fun a ha => by
    by_cases z : a = p
    · subst z; rw [upd_same]; simp
    · rw [upd_ne z]; exact r.zed a ha⟩
/-- an object written -/
theorem Ext.write {i : Nat} {a : Addr} {u : HO} (q : J.l[i]? = some a) : Ext J H J (upd H a u) :=
  ⟨rfl, ⟨[], by simp, by simp⟩, fun b o n e => by rw [upd_ne]; exact e; rintro rfl; exact n (List.mem_of_getElem? q)⟩
theorem RH.write {i : Nat} {a : Addr} {o : O} {u : HO} (r : RH K J h H) (q : J.l[i]? = some a) (ro : RO K J (upd H a u) o u) : RH K J (h.set i o) (upd H a u) := by
  refine ⟨r.nd, by simp [r.len], fun j ob e => ?_, r.apart, fun b hb => ?_⟩
  · by_cases hj : i = j
    · subst hj
      have hl : i < h.length := by rw [← r.len]; exact (List.getElem?_eq_some_iff.mp q).1
      rw [List.getElem?_set_self hl] at e; cases e
      exact ⟨a, u, q, upd_same, ro⟩
    · rw [List.getElem?_set_ne hj] at e
      obtain ⟨b, w, h1, h2, h3⟩ := r.obj j ob e
      have nb : b ≠ a := by
        rintro rfl
        obtain ⟨l1, e1⟩ := List.getElem?_eq_some_iff.mp q
        obtain ⟨l2, e2⟩ := List.getElem?_eq_some_iff.mp h1
        exact hj ((List.getElem_inj r.nd).mp (e1.trans e2.symm))
      exact ⟨b, w, h1, by rw [upd_ne nb]; exact h2, h3.ext (Ext.write q)⟩
  · rw [upd_ne]; exact r.zed b hb
    rintro rfl; exact r.apart _ hb (List.mem_of_getElem? q)

/-! ### the names -/
structure RE (K : PySem.W.Frag) (J : Jn) (H : Hp) (ρ : Env) (σ : L2.St) : Prop where
  len : ρ.length = σ.length
  get : ∀ (i : Nat) (d : D), ρ[i]? = some (some d) → ∃ v, σ[i]? = some (some v) ∧ RD K J H d v
variable {ρ : Env} {σ : L2.St}
theorem RE.ext (r : RE K J H ρ σ) (e : Ext J H J' H') : RE K J' H' ρ σ := ⟨r.len, fun i d q => let ⟨v, a, b⟩ := r.get i d q; ⟨v, a, b.ext e⟩⟩
theorem RE.set (r : RE K J H ρ σ) (i : Nat) {d : D} {v : V} (x : RD K J H d v) : RE K J H (ρ.set i (some d)) (σ.set i (some v)) := by
  refine ⟨by simp [r.len], fun j e q => ?_⟩
  by_cases hj : i = j
  · subst hj
    have hl : i < ρ.length := by
      have := (List.getElem?_eq_some_iff.mp q).1
      simpa using this
    rw [List.getElem?_set_self hl] at q
    cases q
    exact ⟨v, by rw [List.getElem?_set_self (by rw [← r.len]; exact hl)], x⟩
  · rw [List.getElem?_set_ne hj] at q
    obtain ⟨w, a, b⟩ := r.get j e q
    exact ⟨w, by rw [List.getElem?_set_ne hj]; exact a, b⟩
theorem RE.lose (r : RE K J H ρ σ) (i : Nat) : RE K J H (ρ.set i none) σ := by
  refine ⟨by simp [r.len], fun j e q => ?_⟩
  by_cases hj : i = j
  · subst hj
    by_cases hl : i < ρ.length
    · rw [List.getElem?_set_self hl] at q; cases q
    · rw [List.getElem?_eq_none (by simpa using hl)] at q; cases q
  · rw [List.getElem?_set_ne hj] at q
    exact r.get j e q
end

/-! ### what is wanted behind a piece -/
abbrev RelA (α β : Type) := Jn → Hp → α → β → Prop
def Post (K : PySem.W.Frag) {α β : Type} (J : Jn) (H : Hp) (Rl : RelA α β) (r : R α) (Q : β → Hp → Prop) : Prop := match r with
  | .ok a h' => ∀ J' H' b, Ext J H J' H' → RH K J' h' H' → Rl J' H' a b → Q b H'
  | _ => False
section
variable {K : PySem.W.Frag} {J J' : Jn} {H H' : Hp} {h h' : Hh} {ρ : Env} {σ : L2.St} {α β γ δ : Type}
theorem Post.mono {Rl : RelA α β} {r : R α} {Q Q' : β → Hp → Prop} (p : Post K J H Rl r Q) (f : ∀ b H', Q b H' → Q' b H') : Post K J H Rl r Q' := by
  cases r with
  | ok a h' => exact fun J' H' b e rh rl => f _ _ (p J' H' b e rh rl)
  | bad => exact p
  | err _ _ => exact p
theorem Post.ext {Rl : RelA α β} {r : R α} {Q : β → Hp → Prop} (rh : RH K J h H) (rh' : RH K J' h' H') (e : Ext J H J' H') (p : Post K J H Rl r Q) : Post K J' H' Rl r Q := by
  cases r with
  | ok a h2 => exact fun J2 H2 b e2 rh2 rl => p J2 H2 b (e.trans rh rh' e2) rh2 rl
  | bad => exact p
  | err _ _ => exact p
/-- a reading by an evaluator's function -/
def tG (K : PySem.W.Frag) (Rl : RelA α β) (f : Env → Hh → R α) : L2.St → Hp → (β → Hp → Prop) → Prop := fun σ H Q => ∃ ρ h J, RE K J H ρ σ ∧ RH K J h H ∧ Post K J H Rl (f ρ h) Q
abbrev rD (K : PySem.W.Frag) : RelA D V := RD K
abbrev rDs (K : PySem.W.Frag) : RelA (List D) (List V) := RDs K
abbrev rB : RelA Bool Bool := fun _ _ a b => a = b
/-- step by step -/
theorem Post.step {R1 : RelA α β} {R2 : RelA γ δ} {f : Env → Hh → R α} {g : α → Hh → R γ} {Q : δ → Hp → Prop} (re : RE K J H ρ σ) (rh : RH K J h H) (p : Post K J H R2 ((f ρ h).bind g) Q) :
    tG K R1 f σ H (fun b H1 => ∃ J1 h1 a, Ext J H J1 H1 ∧ RE K J1 H1 ρ σ ∧ RH K J1 h1 H1 ∧ R1 J1 H1 a b ∧ Post K J1 H1 R2 (g a h1) Q) := by
  refine ⟨ρ, h, J, re, rh, ?_⟩
  cases q : f ρ h with
  | ok a h1 =>
    rw [q] at p
    exact fun J1 H1 b e rh1 rl => ⟨J1, h1, a, e, re.ext e, rh1, rl, Post.ext rh rh1 e p⟩
  | bad => rw [q] at p; exact p
  | err _ _ => rw [q] at p; exact p
theorem Post.opt {Rl : RelA α β} {o : Option α} {Q : β → Hp → Prop} (rh : RH K J h H) (p : Post K J H Rl (R.opt o h) Q) : ∃ a, o = some a ∧ ∀ b, Rl J H a b → Q b H := by
  cases o with
  | none => exact False.elim p
  | some a => exact ⟨a, rfl, fun b rl => p J H b Ext.refl rh rl⟩
/-- .. with a further thing laid -/
theorem Post.optX {Rl : RelA α β} {o : Option α} {Q : β → Hp → Prop} (p : Post K J H Rl (R.opt o h) Q) : ∃ a, o = some a ∧ ∀ J' H' b, Ext J H J' H' → RH K J' h H' → Rl J' H' a b → Q b H' := by
  cases o with
  | none => exact False.elim p
  | some a => exact ⟨a, rfl, p⟩
theorem tG.mono {Rl : RelA α β} {f : Env → Hh → R α} {Q Q' : β → Hp → Prop} (p : tG K Rl f σ H Q) (m : ∀ b H', Q b H' → Q' b H') : tG K Rl f σ H Q' :=
  let ⟨ρ, h, J, re, rh, q⟩ := p; ⟨ρ, h, J, re, rh, q.mono m⟩
end
theorem _root_.L2.PE.imp {X : Cx} {e : Expr} {t t' : TE} (h : PE X e t) (i : ∀ σ H Q, t' σ H Q → t σ H Q) : PE X e t' := ⟨fun p s σ H Q I q => h.run p s σ H Q I (i σ H Q q)⟩
theorem _root_.L2.PT.imp {X : Cx} {e : Expr} {t t' : TT} (h : PT X e t) (i : ∀ σ H Q, t' σ H Q → t σ H Q) : PT X e t' := ⟨fun p s σ H Q I q => h.run p s σ H Q I (i σ H Q q)⟩
theorem _root_.L2.PW.imp {X : Cx} {e : Expr} {t t' : TT} (h : PW X e t) (i : ∀ σ H Q, t' σ H Q → t σ H Q) : PW X e t' := ⟨fun w p s σ H Q I q => h.run w p s σ H Q I (i σ H Q q)⟩
theorem _root_.L2.PA.imp {X : Cx} {es : List Expr} {t t' : TA} (h : PA X es t) (i : ∀ σ H Q, t' σ H Q → t σ H Q) : PA X es t' := ⟨fun w p s σ H Q I q => h.run w p s σ H Q I (i σ H Q q)⟩
theorem _root_.L2.PI.imp {X : Cx} {tg e : Expr} {t t' : TI} (h : PI X tg e t) (i : ∀ σ H Q, t' σ H Q → t σ H Q) : PI X tg e t' := ⟨fun p s σ H Q I q => h.run p s σ H Q I (i σ H Q q)⟩
theorem _root_.L2.PG.imp {X : Cx} {e : Expr} {t t' : TG} (h : PG X e t) (i : ∀ v σ H Q, t' v σ H Q → t v σ H Q) : PG X e t' := ⟨fun p s σ H v u Q I r q => h.run p s σ H v u Q I r (i v σ H Q q)⟩
theorem _root_.L2.PS.imp {X : Cx} {e : Stmt} {t t' : TS} (h : PS X e t) (i : ∀ D σ H, t' D σ H → t D σ H) : PS X e t' := ⟨fun p s σ H D I q => h.run p s σ H D I (i D σ H q)⟩
theorem _root_.L2.PSs.imp {X : Cx} {e : List Stmt} {t t' : TS} (h : PSs X e t) (i : ∀ D σ H, t' D σ H → t D σ H) : PSs X e t' := ⟨fun p s σ H D I q => h.run p s σ H D I (i D σ H q)⟩
end PV
end

section
set_option maxRecDepth 100000
namespace PV
open L2 PySem PySem.Spec PyProof.Rows

/-! ### what a value is, by its data -/
section
variable {K : PySem.W.Frag} {J J' : Jn} {H H' : Hp} {h h' : Hh} {d : D} {v : V} {ds : List D} {vs : List V}
theorem size_of {n : Nat} (h : sizeOk n = true) : n ≤ sizeLine := by rw [sizeLine_eq]; exact of_decide_eq_true h
theorem RD.int_inv {i : Int} (r : RD K J H (.int i) v) : v = .int i := by cases r; rfl
theorem RD.bl_inv {b : Bool} (r : RD K J H (.bl b) v) : v = .bl b := by cases r; rfl
theorem RD.str_inv {x : Str} (r : RD K J H (.str x) v) : v = .str x := by cases r; rfl
theorem RD.tup_inv (r : RD K J H (.tup ds) v) : ∃ a vs, v = .ref a ∧ SqT K H a vs ∧ vs.length ≤ sizeLine ∧ RDs K J H ds vs := by
  cases r with
  | tup n m q z r => exact ⟨_, _, rfl, .inl (.inl q), z, r⟩
  | ktup k z r => exact ⟨_, _, rfl, .inr k, z, r⟩
theorem own_inv (rh : RH K J h H) (e : d.own h = some ds) (r : RD K J H d v) : ∃ a vs, v = .ref a ∧ H a = some (.lst vs) ∧ vs.length ≤ sizeLine ∧ RDs K J H ds vs := by
  cases d with
  | lst xs =>
    cases r with
    | lst n m q z r => cases e; exact ⟨_, _, rfl, q, z, r⟩
  | ref i =>
    cases r with
    | ref q =>
      obtain ⟨o, u, h1, h2, h3⟩ := rh.at q
      simp only [D.own, h1] at e
      cases h3 with
      | lst z r => cases e; exact ⟨_, _, rfl, h2, z, r⟩
      | dct z r => cases e
  | _ => cases e
theorem seq_inv (rh : RH K J h H) (e : d.seq h = some ds) (r : RD K J H d v) : ∃ a vs, v = .ref a ∧ (SqL K H a vs ∨ SqT K H a vs) ∧ vs.length ≤ sizeLine ∧ RDs K J H ds vs := by
  cases d with
  | tup xs =>
    cases e
    obtain ⟨a, vs, e1, e2, e3, e4⟩ := r.tup_inv
    exact ⟨a, vs, e1, .inr e2, e3, e4⟩
  | lst xs =>
    cases r with
    | lst n m q z r => cases e; exact ⟨_, _, rfl, .inl (.inl (.inl q)), z, r⟩
  | fz xs =>
    cases r with
    | fz n m q z r => cases e; exact ⟨_, _, rfl, .inl (.inl (.inr ⟨_, q⟩)), z, r⟩
    | kfz k z r => cases e; exact ⟨_, _, rfl, .inl (.inr k), z, r⟩
  | ref i =>
    cases r with
    | ref q =>
      obtain ⟨o, u, h1, h2, h3⟩ := rh.at q
      simp only [D.seq, h1] at e
      cases h3 with
      | lst z r => cases e; exact ⟨_, _, rfl, .inl (.inl (.inl h2)), z, r⟩
      | dct z r => cases e
  | _ => cases e
/-- a list as it stands -/
theorem res_inv (rh : RH K J h H) (e : d.res h = .lst ds) (r : RD K J H d v) : ∃ a vs, v = .ref a ∧ SqL K H a vs ∧ vs.length ≤ sizeLine ∧ RDs K J H ds vs := by
  cases d with
  | lst xs =>
    cases r with
    | lst n m q z r => cases e; exact ⟨_, _, rfl, .inl (.inl q), z, r⟩
  | fz xs =>
    cases r with
    | fz n m q z r => cases e; exact ⟨_, _, rfl, .inl (.inr ⟨_, q⟩), z, r⟩
    | kfz k z r => cases e; exact ⟨_, _, rfl, .inr k, z, r⟩
  | ref i =>
    cases r with
    | ref q =>
      obtain ⟨o, u, h1, h2, h3⟩ := rh.at q
      simp only [D.res, h1] at e
      cases h3 with
      | lst z r => cases e; exact ⟨_, _, rfl, .inl (.inl h2), z, r⟩
      | dct z r => cases e
  | _ => cases e
theorem res_else {e : D} (h1 : d.res h = e) (h2 : ∀ xs, e ≠ .lst xs) : e = d := by
  cases d with
  | ref i =>
    simp only [D.res] at h1
    split at h1
    · exact absurd h1.symm (h2 _)
    · exact h1.symm
  | fz xs => exact absurd h1.symm (h2 _)
  | _ => exact h1.symm
theorem RD.newTup {p : Addr} (rh : RH K J h H) (n : H p = none) (r : RDs K J H ds vs) (z : vs.length ≤ sizeLine) : RD K J (upd H p (.tup vs)) (.tup ds) (.ref p) :=
  .tup (rh.notin n) (rh.notz n) upd_same z (r.ext (Ext.laid n))
theorem RD.newLst {p : Addr} (rh : RH K J h H) (n : H p = none) (r : RDs K J H ds vs) (z : vs.length ≤ sizeLine) : RD K J (upd H p (.lst vs)) (.lst ds) (.ref p) :=
  .lst (rh.notin n) (rh.notz n) upd_same z (r.ext (Ext.laid n))
end

/-! ### data as the library's data -/
mutual
theorem lay_py : ∀ d : D, d.lay = true → d.py.canLay0 = true
  | .non, _ => by simp only [D.py, PyData.canLay0]
  | .bl _, _ => by simp only [D.py, PyData.canLay0]
  | .int _, _ => by simp only [D.py, PyData.canLay0]
  | .str x, h => by simpa only [D.py, PyData.canLay0, D.lay] using h
  | .tup xs, h => by simp only [D.py, PyData.canLay0]; exact lays_pys xs (by simpa only [D.lay] using h)
  | .lst xs, h => by simp only [D.py, PyData.canLay0]; exact lays_pys xs (by simpa only [D.lay] using h)
  | .ref _, h => by simp [D.lay] at h
  | .fz _, h => by simp [D.lay] at h
theorem lays_pys : ∀ xs : List D, D.lays xs = true → PyData.canLayAll0 (D.pys xs) = true
  | [], _ => by simp only [D.pys, PyData.canLayAll0]
  | x :: xs, h => by
    simp only [D.lays, Bool.and_eq_true] at h
    simp only [D.pys, PyData.canLayAll0, lay_py x h.1, lays_pys xs h.2, Bool.and_self]
end
mutual
theorem dep_py : ∀ d : D, d.lay = true → d.py.depth = d.dep
  | .non, _ => by simp only [D.py, PyData.depth, D.dep]
  | .bl _, _ => by simp only [D.py, PyData.depth, D.dep]
  | .int _, _ => by simp only [D.py, PyData.depth, D.dep]
  | .str x, h => by simp only [D.py, PyData.depth, D.dep]
  | .tup xs, h => by simp only [D.py, PyData.depth, D.dep]; rw [deps_pys xs (by simpa only [D.lay] using h)]
  | .lst xs, h => by simp only [D.py, PyData.depth, D.dep]; rw [deps_pys xs (by simpa only [D.lay] using h)]
  | .ref _, h => by simp [D.lay] at h
  | .fz _, h => by simp [D.lay] at h
theorem deps_pys : ∀ xs : List D, D.lays xs = true → PyData.depthAll (D.pys xs) = D.deps xs
  | [], _ => by simp only [D.pys, PyData.depthAll, D.deps]
  | x :: xs, h => by
    simp only [D.lays, Bool.and_eq_true] at h
    simp only [D.pys, PyData.depthAll, D.deps, dep_py x h.1, deps_pys xs h.2]
end
theorem shp_py {d : D} (h : d.shp = true) : SeqAt.shaped d.py = true := by
  simp only [D.shp, Bool.and_eq_true, decide_eq_true_eq] at h
  show (PyData.canLay0 d.py && decide (d.py.depth ≤ 64)) = true
  rw [lay_py d h.1, dep_py d h.1, decide_eq_true h.2]; rfl
theorem shp_lay {d : D} (h : d.shp = true) : d.lay = true := by
  simp only [D.shp, Bool.and_eq_true] at h
  exact h.1
theorem str_eqb (x y : Str) : (x == y) = decide (x = y) := by
  by_cases e : x = y
  · subst e; simp
  · rw [decide_eq_false e]; exact beq_eq_false_iff_ne.mpr e
mutual
theorem eqv_py : ∀ d e : D, d.lay = true → e.lay = true → PyData.eqv d.py e.py = D.eqv d e
  | .non, e, _, he => by cases e <;> first | (simp only [D.py, PyData.eqv, D.eqv]; done) | (simp [D.lay] at he; done)
  | .bl _, e, _, he => by cases e <;> first | (simp only [D.py, PyData.eqv, D.eqv]; done) | (simp [D.lay] at he; done)
  | .int _, e, _, he => by cases e <;> first | (simp only [D.py, PyData.eqv, D.eqv]; done) | (simp [D.lay] at he; done)
  | .str x, e, _, he => by cases e <;> first | (simp only [D.py, PyData.eqv, D.eqv, str_eqb]; done) | (simp [D.lay] at he; done)
  | .tup xs, e, hd, he => by
    cases e with
    | tup ys => simp only [D.py, PyData.eqv, D.eqv]; exact eqvs_pys xs ys (by simpa only [D.lay] using hd) (by simpa only [D.lay] using he)
    | ref _ => simp [D.lay] at he
    | fz _ => simp [D.lay] at he
    | _ => simp only [D.py, PyData.eqv, D.eqv]
  | .lst xs, e, hd, he => by
    cases e with
    | lst ys => simp only [D.py, PyData.eqv, D.eqv]; exact eqvs_pys xs ys (by simpa only [D.lay] using hd) (by simpa only [D.lay] using he)
    | ref _ => simp [D.lay] at he
    | fz _ => simp [D.lay] at he
    | _ => simp only [D.py, PyData.eqv, D.eqv]
  | .ref _, _, h, _ => by simp [D.lay] at h
  | .fz _, _, h, _ => by simp [D.lay] at h
theorem eqvs_pys : ∀ xs ys : List D, D.lays xs = true → D.lays ys = true → PyData.eqvAll (D.pys xs) (D.pys ys) = D.eqvs xs ys
  | [], [], _, _ => by simp only [D.pys, PyData.eqvAll, D.eqvs]
  | [], y :: ys, _, _ => by simp only [D.pys, PyData.eqvAll, D.eqvs]
  | x :: xs, [], _, _ => by simp only [D.pys, PyData.eqvAll, D.eqvs]
  | x :: xs, (y :: ys), h, h' => by
    simp only [D.lays, Bool.and_eq_true] at h h'
    simp only [D.pys, PyData.eqvAll, D.eqvs, eqv_py x y h.1 h'.1, eqvs_pys xs ys h.2 h'.2]
end
section
variable {K : PySem.W.Frag} {J : Jn} {H : Hp} {h : Hh}
mutual
theorem RD.dp : ∀ (d : D) (v : V), d.lay = true → RD K J H d v → Dp K H v d.py
  | .non, _, _, r => by cases r; simp only [D.py]; exact .non
  | .bl b, _, _, r => by cases r; simp only [D.py]; exact .bl b
  | .int i, _, _, r => by cases r; simp only [D.py]; exact .int i
  | .str x, _, _, r => by cases r; simp only [D.py]; exact .str x
  | .tup xs, _, l, r => by
    obtain ⟨a, vs, rfl, hq, z, rs⟩ := r.tup_inv
    simp only [D.py]; exact .tup hq (RDs.dp xs vs (by simpa only [D.lay] using l) rs)
  | .lst xs, _, l, r => by
    cases r with
    | lst n m q z rs => simp only [D.py]; exact .lst (.inl (.inl q)) (RDs.dp xs _ (by simpa only [D.lay] using l) rs)
  | .ref _, _, l, _ => by simp [D.lay] at l
  | .fz _, _, l, _ => by simp [D.lay] at l
theorem RDs.dp : ∀ (ds : List D) (vs : List V), D.lays ds = true → RDs K J H ds vs → DpAll K H vs (D.pys ds)
  | [], _, _, r => by cases r; simp only [D.pys]; exact .nil
  | d :: ds, _, l, r => by
    simp only [D.lays, Bool.and_eq_true] at l
    cases r with | cons a b => simp only [D.pys]; exact .cons (RD.dp d _ l.1 a) (RDs.dp ds _ l.2 b)
end
theorem res_dp {d : D} {v : V} (rh : RH K J h H) (l : (d.res h).lay = true) (r : RD K J H d v) : Dp K H v (d.res h).py := by
  cases e : d.res h with
  | lst xs =>
    obtain ⟨a, vs, rfl, hq, z, rs⟩ := res_inv rh e r
    rw [e] at l
    simp only [D.py]; exact .lst hq (RDs.dp xs vs (by simpa only [D.lay] using l) rs)
  | _ =>
    have e2 := res_else e (fun xs z => by cases z)
    rw [e] at l
    subst e2
    exact RD.dp _ v l r
end

/-! ### operators -/
def rOp (K : PySem.W.Frag) (f : Hh → D → D → Option D) : R2 := fun x y H Q => ∃ J h dx dy d, RH K J h H ∧ RD K J H dx x ∧ RD K J H dy y ∧ f h dx dy = some d ∧ ∀ J' H' v, Ext J H J' H' → RH K J' h H' → RD K J' H' d v → Q v H'
def rCmp (K : PySem.W.Frag) (f : Hh → D → D → Option Bool) : R2 := fun x y H Q => ∃ J h dx dy b, RH K J h H ∧ RD K J H dx x ∧ RD K J H dy y ∧ f h dx dy = some b ∧ Q (.bl b) H
section
variable {X : Cx}
theorem ops_add : OpR X (binaryOp .Add) (rOp X.K (opBin .add)) := by
  intro pins s σ H x y v u Q I rx ry ⟨J, h, dx, dy, d, rh, r1, r2, e, q⟩
  simp only [opBin] at e
  split at e
  · cases r1; cases r2; cases e
    exact op_add pins s σ H _ _ v u Q I rx ry ⟨_, _, rfl, rfl, q _ _ _ Ext.refl rh (.int _)⟩
  · cases r1; cases r2
    split at e
    · rename_i hz; cases e
      exact op_add_str pins s σ H _ _ v u Q I rx ry ⟨_, _, rfl, rfl, size_of hz, q _ _ _ Ext.refl rh (.str _)⟩
    · cases e
  · split at e
    · rename_i xs ys hz; cases e
      obtain ⟨a, vs, rfl, ha, za, ra⟩ := r1.tup_inv
      obtain ⟨b, ws, rfl, hb, zb, rb⟩ := r2.tup_inv
      have hlen : vs.length + ws.length ≤ sizeLine := by rw [← ra.length, ← rb.length]; exact size_of hz
      refine op_catA pins s σ H _ _ v u Q I rx ry ⟨a, b, vs, ws, rfl, rfl, ha, hb, hlen, fun e => ?_, fun _ e => ?_, fun _ _ p np => ?_⟩
      · subst e; cases ra; exact q _ _ _ Ext.refl rh (by simpa using r2)
      · subst e; cases rb; exact q _ _ _ Ext.refl rh (by simpa using r1)
      · exact q _ _ _ (Ext.laid np) (rh.laid np) (RD.newTup rh np (ra.append rb) (by rw [List.length_append]; exact hlen))
    · cases e
  · split at e
    · rename_i e1 e2
      split at e
      · rename_i hz; cases e
        obtain ⟨a, vs, rfl, ha, za, ra⟩ := own_inv rh e1 r1
        obtain ⟨b, ws, rfl, hb, zb, rb⟩ := own_inv rh e2 r2
        have hlen : vs.length + ws.length ≤ sizeLine := by rw [← ra.length, ← rb.length]; exact size_of hz
        exact op_cat pins s σ H _ _ v u Q I rx ry ⟨a, b, vs, ws, rfl, rfl, ha, hb, hlen, fun p np =>
          q _ _ _ (Ext.laid np) (rh.laid np) (RD.newLst rh np (ra.append rb) (by rw [List.length_append]; exact hlen))⟩
      · cases e
    · cases e
theorem ops_sub : OpR X (binaryOp .Sub) (rOp X.K (opBin .sub)) := by
  intro pins s σ H x y v u Q I rx ry ⟨J, h, dx, dy, d, rh, r1, r2, e, q⟩
  simp only [opBin] at e
  split at e
  · cases r1; cases r2; cases e
    exact op_sub pins s σ H _ _ v u Q I rx ry ⟨_, _, rfl, rfl, q _ _ _ Ext.refl rh (.int _)⟩
  · cases e
theorem ops_mul : OpR X (binaryOp .Mult) (rOp X.K (opBin .mul)) := by
  intro pins s σ H x y v u Q I rx ry ⟨J, h, dx, dy, d, rh, r1, r2, e, q⟩
  simp only [opBin] at e
  split at e
  · cases r1; cases r2
    split at e
    · rename_i hz; cases e
      simp only [mulOk, Bool.or_eq_true] at hz
      rcases hz with (hz | hz) | hz
      · exact op_mulW pins s σ H _ _ v u Q I rx ry ⟨_, _, rfl, rfl, (show CMulW _ _ from of_decide_eq_true (p := _ < 1000000) hz), q _ _ _ Ext.refl rh (.int _)⟩
      · exact op_mul pins s σ H _ _ v u Q I rx ry ⟨_, _, rfl, rfl, .inl (of_decide_eq_true hz), q _ _ _ Ext.refl rh (.int _)⟩
      · exact op_mul pins s σ H _ _ v u Q I rx ry ⟨_, _, rfl, rfl, .inr (of_decide_eq_true hz), q _ _ _ Ext.refl rh (.int _)⟩
    · cases e
  · split at e
    · rename_i e1
      split at e
      · rename_i j _ _ _ hz
        cases e
        obtain ⟨a, vs, rfl, ha, za, ra⟩ := own_inv rh e1 r1
        cases r2
        obtain ⟨h0, h1, h2⟩ := hz
        have hlen : vs.length * j.toNat ≤ sizeLine := by rw [← ra.length]; exact size_of h2
        refine op_rep pins s σ H _ _ v u Q I rx ry ⟨a, j, vs, rfl, rfl, ha, by omega, by omega, hlen, fun p np =>
          q _ _ _ (Ext.laid np) (rh.laid np) (RD.newLst rh np (ra.replicate _) ?_)⟩
        rw [List.length_flatten]; simp; rw [Nat.mul_comm]; exact hlen
      · cases e
    · cases e
  · cases e
theorem ops_fdiv : OpR X (binaryOp .FloorDiv) (rOp X.K (opBin .fdiv)) := by
  intro pins s σ H x y v u Q I rx ry ⟨J, h, dx, dy, d, rh, r1, r2, e, q⟩
  simp only [opBin] at e
  split at e
  · cases r1; cases r2
    split at e
    · rename_i hz; cases e
      exact op_fdiv pins s σ H _ _ v u Q I rx ry ⟨_, _, rfl, rfl, hz, q _ _ _ Ext.refl rh (.int _)⟩
    · cases e
  · cases e
theorem ops_mod : OpR X (binaryOp .Mod) (rOp X.K (opBin .mod)) := by
  intro pins s σ H x y v u Q I rx ry ⟨J, h, dx, dy, d, rh, r1, r2, e, q⟩
  simp only [opBin] at e
  split at e
  · cases r1; cases r2
    split at e
    · rename_i hz; cases e
      exact op_mod pins s σ H _ _ v u Q I rx ry ⟨_, _, rfl, rfl, hz, q _ _ _ Ext.refl rh (.int _)⟩
    · cases e
  · cases e
theorem ops_pow : OpR X (binaryOp .Pow) (rOp X.K (opBin .pow)) := by
  intro pins s σ H x y v u Q I rx ry ⟨J, h, dx, dy, d, rh, r1, r2, e, q⟩
  simp only [opBin] at e
  split at e
  · cases r1; cases r2
    split at e
    · rename_i hz; cases e
      simp only [powOk, Bool.and_eq_true, decide_eq_true_eq] at hz
      exact op_pow pins s σ H _ _ v u Q I rx ry ⟨_, _, rfl, rfl, ⟨hz.1.1, hz.1.2, hz.2⟩, q _ _ _ Ext.refl rh (.int _)⟩
    · cases e
  · cases e

/-! ### comparisons -/
theorem dec_strD {a b : Str} : decide (V.str a = V.str b) = decide (a = b) := decide_eq_decide.mpr ⟨V.str.inj, fun z => by rw [z]⟩
theorem ops_eq (hu : X.A.units + 64 < cLine) : OpR X (compareOp .Eq) (rCmp X.K (opCmp .eq)) := by
  intro pins s σ H x y v u Q I rx ry ⟨J, h, dx, dy, d, rh, r1, r2, e, q⟩
  simp only [opCmp] at e
  unfold opEq at e
  split at e
  · cases r1; cases r2; cases e
    exact op_eq pins s σ H _ _ v u Q I rx ry ⟨rfl, by rw [dec_strD]; exact q⟩
  · split at e
    · rename_i hz; cases e
      rw [Bool.and_eq_true] at hz
      have l1 := shp_lay hz.1
      have l2 := shp_lay hz.2
      exact op_eqD hu pins s σ H _ _ v u Q I rx ry ⟨_, _, res_dp rh l1 r1, res_dp rh l2 r2, shp_py hz.1, shp_py hz.2, by rw [eqv_py _ _ l1 l2]; exact q⟩
    · cases e
theorem ops_ne (hu : X.A.units + 64 < cLine) : OpR X (compareOp .NotEq) (rCmp X.K (opCmp .ne)) := by
  intro pins s σ H x y v u Q I rx ry ⟨J, h, dx, dy, d, rh, r1, r2, e, q⟩
  simp only [opCmp, Option.map_eq_some_iff] at e
  obtain ⟨d, e, rfl⟩ := e
  unfold opEq at e
  split at e
  · cases r1; cases r2; cases e
    exact op_ne pins s σ H _ _ v u Q I rx ry ⟨rfl, by rw [dec_strD]; exact q⟩
  · split at e
    · rename_i hz; cases e
      rw [Bool.and_eq_true] at hz
      have l1 := shp_lay hz.1
      have l2 := shp_lay hz.2
      exact op_neD hu pins s σ H _ _ v u Q I rx ry ⟨_, _, res_dp rh l1 r1, res_dp rh l2 r2, shp_py hz.1, shp_py hz.2, by rw [eqv_py _ _ l1 l2]; exact q⟩
    · cases e
theorem ops_lt : OpR X (compareOp .Lt) (rCmp X.K (opCmp .lt)) := by
  intro pins s σ H x y v u Q I rx ry ⟨J, h, dx, dy, d, rh, r1, r2, e, q⟩
  simp only [opCmp] at e
  split at e
  · cases r1; cases r2; cases e
    exact op_lt pins s σ H _ _ v u Q I rx ry ⟨_, _, rfl, rfl, q⟩
  · cases e
theorem ops_le : OpR X (compareOp .LtE) (rCmp X.K (opCmp .le)) := by
  intro pins s σ H x y v u Q I rx ry ⟨J, h, dx, dy, d, rh, r1, r2, e, q⟩
  simp only [opCmp] at e
  split at e
  · cases r1; cases r2; cases e
    exact op_le pins s σ H _ _ v u Q I rx ry ⟨_, _, rfl, rfl, q⟩
  · cases e
theorem ops_gt : OpR X (compareOp .Gt) (rCmp X.K (opCmp .gt)) := by
  intro pins s σ H x y v u Q I rx ry ⟨J, h, dx, dy, d, rh, r1, r2, e, q⟩
  simp only [opCmp] at e
  split at e
  · cases r1; cases r2; cases e
    exact op_gt pins s σ H _ _ v u Q I rx ry ⟨_, _, rfl, rfl, q⟩
  · cases e
theorem ops_ge : OpR X (compareOp .GtE) (rCmp X.K (opCmp .ge)) := by
  intro pins s σ H x y v u Q I rx ry ⟨J, h, dx, dy, d, rh, r1, r2, e, q⟩
  simp only [opCmp] at e
  split at e
  · cases r1; cases r2; cases e
    exact op_ge pins s σ H _ _ v u Q I rx ry ⟨_, _, rfl, rfl, q⟩
  · cases e
theorem is_blD {K : PySem.W.Frag} {J : Jn} {H : Hp} {d : D} {x : V} {v : Value} {b : Bool} {M : Model} {A : Around} {E : Value → Shared → Prop} {s : Shared} {Q : Value → Shared → Prop} (r : RD K J H d x) (rx : L2.RelV x v) (h : Q (.bool (d.eqBl b)) s) :
    wpAny M A (compareOp .Is v (.bool b)) Q E s := by
  cases r with
  | non => cases (show v = Value.none from rx); exact wpAny_pure h
  | bl a => cases (show v = Value.bool a from rx); exact is_bool h
  | int i => obtain ⟨t, rfl⟩ := (show ∃ t, v = Value.int i t from rx); exact wpAny_pure h
  | str i => obtain ⟨t, rfl⟩ := (show ∃ t, v = Value.str i t from rx); exact wpAny_pure h
  | tup n m q z r => cases (show v = Value.ref _ from rx); exact wpAny_pure h
  | ktup k z r => cases (show v = Value.ref _ from rx); exact wpAny_pure h
  | lst n m q z r => cases (show v = Value.ref _ from rx); exact wpAny_pure h
  | ref q => cases (show v = Value.ref _ from rx); exact wpAny_pure h
  | fz n m q z r => cases (show v = Value.ref _ from rx); exact wpAny_pure h
  | kfz k z r => cases (show v = Value.ref _ from rx); exact wpAny_pure h
theorem isn_blD {K : PySem.W.Frag} {J : Jn} {H : Hp} {d : D} {x : V} {v : Value} {b : Bool} {M : Model} {A : Around} {E : Value → Shared → Prop} {s : Shared} {Q : Value → Shared → Prop} (r : RD K J H d x) (rx : L2.RelV x v) (h : Q (.bool (!d.eqBl b)) s) :
    wpAny M A (compareOp .IsNot v (.bool b)) Q E s := by
  cases r with
  | non => cases (show v = Value.none from rx); exact wpAny_pure h
  | bl a => cases (show v = Value.bool a from rx); cases a <;> cases b <;> exact wpAny_pure h
  | int i => obtain ⟨t, rfl⟩ := (show ∃ t, v = Value.int i t from rx); exact wpAny_pure h
  | str i => obtain ⟨t, rfl⟩ := (show ∃ t, v = Value.str i t from rx); exact wpAny_pure h
  | tup n m q z r => cases (show v = Value.ref _ from rx); exact wpAny_pure h
  | ktup k z r => cases (show v = Value.ref _ from rx); exact wpAny_pure h
  | lst n m q z r => cases (show v = Value.ref _ from rx); exact wpAny_pure h
  | ref q => cases (show v = Value.ref _ from rx); exact wpAny_pure h
  | fz n m q z r => cases (show v = Value.ref _ from rx); exact wpAny_pure h
  | kfz k z r => cases (show v = Value.ref _ from rx); exact wpAny_pure h
theorem is_nonD {K : PySem.W.Frag} {J : Jn} {H : Hp} {d : D} {x : V} (r : RD K J H d x) : decide (x = .non) = d.isNon := by
  cases r <;> first | rfl | (exact decide_eq_false (fun z => by cases z))
theorem ops_is : OpR X (compareOp .Is) (rCmp X.K (opCmp .is)) := by
  intro pins s σ H x y v u Q I rx ry ⟨J, h, dx, dy, d, rh, r1, r2, e, q⟩
  simp only [opCmp] at e
  split at e
  · cases r2; cases e
    exact op_isN pins s σ H _ _ v u Q I rx ry ⟨rfl, by rw [is_nonD r1]; exact q⟩
  · cases r2; cases e
    cases (show u = Value.bool _ from ry)
    exact is_blD r1 rx ⟨.bl _, H, I, rfl, q⟩
  · cases e
theorem ops_isn : OpR X (compareOp .IsNot) (rCmp X.K (opCmp .isn)) := by
  intro pins s σ H x y v u Q I rx ry ⟨J, h, dx, dy, d, rh, r1, r2, e, q⟩
  simp only [opCmp] at e
  split at e
  · cases r2; cases e
    exact op_notN pins s σ H _ _ v u Q I rx ry ⟨rfl, by rw [is_nonD r1]; exact q⟩
  · cases r2; cases e
    cases (show u = Value.bool _ from ry)
    exact isn_blD r1 rx ⟨.bl _, H, I, rfl, q⟩
  · cases e
end
end PV
end

section
set_option maxRecDepth 100000
namespace PV
open L2 PySem PySem.Spec PyProof.Rows

section
variable {K : PySem.W.Frag} {J J' : Jn} {H H' : Hp} {h h' : Hh} {d : D} {v : V} {ds : List D} {vs : List V}
/-! ### dicts -/
theorem valD_rel {kvs : List (Key × D)} {kws : List (Key × V)} (r : Paired (fun p q => p.1 = q.1 ∧ RD K J H p.2 q.2) kvs kws) (k : Key) :
    (valD kvs k = none ∧ valV kws k = none) ∨ ∃ d v, valD kvs k = some d ∧ valV kws k = some v ∧ RD K J H d v := by
  induction r with
  | nil => exact (.inl ⟨rfl, rfl⟩)
  | @cons p q ps qs x t ih =>
    by_cases e : p.1 = k
    · refine .inr ⟨p.2, q.2, ?_, ?_, x.2⟩
      · simp [valD, List.find?_cons, e]
      · exact valV_pos (x.1 ▸ e)
    · have e2 : ¬ q.1 = k := by rw [← x.1]; exact e
      rw [valV_neg e2, show valD (p :: ps) k = valD ps k by simp [valD, List.find?_cons, e]]
      exact ih
theorem key_inv {k : Key} (e : d.key = some k) (r : RD K J H d v) : v = kV k := by
  cases d with
  | int i => cases e; cases r; rfl
  | str x => cases e; cases r; rfl
  | _ => cases e
theorem any_py {x : D} : ∀ {ys : List D}, D.lays ys = true → x.lay = true → ((D.pys ys).any fun z => PyData.eqv z x.py) = ys.any fun y => y.eqv x
  | [], _, _ => rfl
  | y :: ys, h, hx => by
    simp only [D.lays, Bool.and_eq_true] at h
    simp only [D.pys, List.any_cons, eqv_py y x h.1 hx, any_py h.2 hx]
end
section
variable {X : Cx}
theorem ops_inCore (hu : X.A.units + 65 < cLine) {pins : List (Addr × Obj)} {s : Shared} {σ : L2.St} {H : Hp} {x y : V} {v u : Value} {b : Bool} {J : Jn} {h : Hh} {dx dy : D} (I : Inv X pins σ H s) (rx : L2.RelV x v) (ry : L2.RelV y u)
    (rh : RH X.K J h H) (r1 : RD X.K J H dx x) (r2 : RD X.K J H dy y) (e : opIn h dx dy = some b) :
    (∀ Q : VK, Q (.bl b) H → wpAny (model X.prog X.w) X.A (compareOp .In v u) (EP X pins σ Q) X.xe s) ∧
    (∀ Q : VK, Q (.bl (!b)) H → wpAny (model X.prog X.w) X.A (compareOp .NotIn v u) (EP X pins σ Q) X.xe s) := by
  have lists : ∀ (p : Addr) (ws : List V) (ys : List D), y = .ref p → SqL X.K H p ws → RDs X.K J H ys ws → (if dx.shp && (D.lst ys).shp then some (ys.any fun z => z.eqv dx) else none) = some b →
      (∀ Q : VK, Q (.bl b) H → wpAny (model X.prog X.w) X.A (compareOp .In v u) (EP X pins σ Q) X.xe s) ∧
      (∀ Q : VK, Q (.bl (!b)) H → wpAny (model X.prog X.w) X.A (compareOp .NotIn v u) (EP X pins σ Q) X.xe s) := by
    intro p ws ys ey hq rr e
    split at e
    · rename_i hz; cases e
      rw [Bool.and_eq_true] at hz
      have l1 := shp_lay hz.1
      have l2 : D.lays ys = true := by have := shp_lay hz.2; simpa only [D.lay] using this
      have sp : SeqAt.shaped (.list (D.pys ys)) = true := by have := shp_py hz.2; simpa only [D.py] using this
      have dl : Dp X.K H y (.list (D.pys ys)) := by rw [ey]; exact .lst hq (RDs.dp ys ws l2 rr)
      constructor
      · intro Q q
        exact op_inD hu pins s σ H x y v u Q I rx ry ⟨dx.py, D.pys ys, RD.dp dx x l1 r1, dl, shp_py hz.1, sp, by rw [any_py l2 l1]; exact q⟩
      · intro Q q
        exact op_notInD hu pins s σ H x y v u Q I rx ry ⟨dx.py, D.pys ys, RD.dp dx x l1 r1, dl, shp_py hz.1, sp, by rw [any_py l2 l1]; exact q⟩
    · cases e
  unfold opIn at e
  split at e
  · split at e
    · rename_i i ys hys
      cases r2 with
      | ref q =>
        obtain ⟨o, w, h1, h2, h3⟩ := rh.at q
        rw [hys] at h1; cases h1
        cases h3 with
        | lst z r => exact lists _ _ _ rfl (.inl (.inl h2)) r e
    · rename_i i kvs hys
      cases r2 with
      | ref q =>
        obtain ⟨o, w, h1, h2, h3⟩ := rh.at q
        rw [hys] at h1; cases h1
        cases h3 with
        | @dct _ kws z r =>
          split at e
          · rename_i k hk; cases e
            obtain rfl := key_inv hk r1
            cases (show u = Value.ref _ from ry)
            have g := DGet.k (k := k) h2
            have eb : (valV kws k).isSome = hasKey k kvs := by
              unfold hasKey
              rcases valD_rel r k with ⟨a, b⟩ | ⟨d, v, a, b, _⟩ <;> rw [a, b] <;> rfl
            rw [← eb]
            exact ⟨fun Q q => d_in (by omega) I g rx fun s' I' => ⟨.bl _, H, I', rfl, q⟩, fun Q q => d_notIn (by omega) I g rx fun s' I' => ⟨.bl _, H, I', rfl, q⟩⟩
          · cases e
    · cases e
  · cases r2 with
    | lst n m q z r => exact lists _ _ _ rfl (.inl (.inl q)) r e
  · obtain ⟨p, ws, ey, hq, z, rr⟩ := r2.tup_inv
    split at e
    · rename_i ys hz; cases e
      rw [Bool.and_eq_true] at hz
      have l1 := shp_lay hz.1
      have l2 : D.lays ys = true := by have := shp_lay hz.2; simpa only [D.lay] using this
      have sp : SeqAt.shaped (.tuple (D.pys ys)) = true := by have := shp_py hz.2; simpa only [D.py] using this
      have dl : Dp X.K H y (.tuple (D.pys ys)) := by rw [ey]; exact .tup hq (RDs.dp ys ws l2 rr)
      obtain ⟨as, q1⟩ := Dp.reads I dx.py x v (RD.dp dx x l1 r1) rx
      obtain ⟨bs, q2⟩ := Dp.reads I (.tuple (D.pys ys)) y u dl ry
      have ll : PyData.canLayAll0 (D.pys ys) = true := lays_pys ys l2
      constructor
      · intro Q q
        exact SeqAt.in_tuple_reads q2 q1 ll (lay_py dx l1) (room_in_shaped (shp_py hz.1) hu) ⟨.bl _, H, I, rfl, by rw [any_py l2 l1]; exact q⟩
      · intro Q q
        exact SeqAt.notIn_tuple_reads q2 q1 ll (lay_py dx l1) (room_in_shaped (shp_py hz.1) hu) ⟨.bl _, H, I, rfl, by rw [any_py l2 l1]; exact q⟩
    · cases e
  · cases e
theorem ops_in (hu : X.A.units + 65 < cLine) : OpR X (compareOp .In) (rCmp X.K (opCmp .inn)) := by
  intro pins s σ H x y v u Q I rx ry ⟨J, h, dx, dy, d, rh, r1, r2, e, q⟩
  exact (ops_inCore hu I rx ry rh r1 r2 e).1 Q q
theorem ops_nin (hu : X.A.units + 65 < cLine) : OpR X (compareOp .NotIn) (rCmp X.K (opCmp .nin)) := by
  intro pins s σ H x y v u Q I rx ry ⟨J, h, dx, dy, d, rh, r1, r2, e, q⟩
  simp only [opCmp, Option.map_eq_some_iff] at e
  obtain ⟨d, e, rfl⟩ := e
  exact (ops_inCore hu I rx ry rh r1 r2 e).2 Q q

/-! ### subscripts, slices -/
theorem atI_rel {K : PySem.W.Frag} {J : Jn} {H : Hp} {ds : List D} {vs : List V} {i : Int} {d : D} (r : RDs K J H ds vs) (e : atI ds i = some d) : ∃ v, atI vs i = some v ∧ RD K J H d v := by
  unfold atI at e ⊢
  rw [r.length] at e
  cases q : ixN vs.length i with
  | none => (rw [q] at e; cases e)
  | some j => rw [q] at e; exact r.get e
theorem ix_all (hu : X.A.units + 1 < cLine) : IxR X (rOp X.K opIdx) := by
  intro value slice pins s σ H x y v u Q I rx ry ⟨J, h, dx, dy, d, rh, r1, r2, e, q⟩ hs
  have lists : ∀ (p : Addr) (ws : List V) (ys : List D) (i : Int), x = .ref p → y = .int i → SqL X.K H p ws → RDs X.K J H ys ws → atI ys i = some d →
      wpAny (model X.prog X.w) X.A (subscriptTail value slice v u) (EP X pins σ Q) X.xe s := by
    intro p ws ys i ex ey hq rr e
    obtain ⟨w, hw, rw'⟩ := atI_rel rr e
    exact ix_list value slice pins s σ H x y v u Q I rx ry ⟨p, ws, i, w, ex, ey, hq, hw, q _ _ _ Ext.refl rh rw'⟩ hs
  unfold opIdx at e
  split at e
  · cases r2
    obtain ⟨p, ws, ex, hq, z, rr⟩ := r1.tup_inv
    obtain ⟨w, hw, rw'⟩ := atI_rel rr e
    exact ix_tup value slice pins s σ H x _ v u Q I rx ry ⟨p, ws, _, w, ex, rfl, hq, hw, q _ _ _ Ext.refl rh rw'⟩ hs
  · cases r2
    cases r1 with
    | lst n m q1 z r => exact lists _ _ _ _ rfl rfl (.inl (.inl q1)) r e
  · cases r2
    cases r1 with
    | fz n m q1 z r => exact lists _ _ _ _ rfl rfl (.inl (.inr ⟨_, q1⟩)) r e
    | kfz k z r => exact lists _ _ _ _ rfl rfl (.inr k) r e
  · split at e
    · rename_i xs i hxs
      cases r2
      cases r1 with
      | ref q1 =>
        obtain ⟨o, w, h1, h2, h3⟩ := rh.at q1
        rw [hxs] at h1; cases h1
        cases h3 with
        | lst z r => exact lists _ _ _ _ rfl rfl (.inl (.inl h2)) r e
    · rename_i kvs yy hxs
      cases r1 with
      | ref q1 =>
        obtain ⟨o, w, h1, h2, h3⟩ := rh.at q1
        rw [hxs] at h1; cases h1
        cases h3 with
        | @dct _ kws z r =>
          split at e
          · rename_i k hk
            obtain rfl := key_inv hk r2
            rcases valD_rel r k with ⟨a, b⟩ | ⟨d', v', a, b, c⟩
            · rw [a] at e; cases e
            · rw [a] at e; cases e
              cases (show v = Value.ref _ from rx)
              have g := DGet.k (k := k) h2
              rw [b] at g
              exact tail_any (dict_typeIs I g) PySem.F.slot_dict_getitem.lookup (d_getItem hu I g ry fun w' s3 I3 rw' => ⟨v', H, I3, rw', q _ _ _ Ext.refl rh c⟩) hs
          · cases e
    · cases e
  · cases e
def rSl (K : PySem.W.Frag) : V → Option Int → Option Int → Hp → VK → Prop := fun x lo hi H Q => ∃ J h dx d, RH K J h H ∧ RD K J H dx x ∧ opSlc h dx lo hi = some d ∧ ∀ J' H' v, Ext J H J' H' → RH K J' h H' → RD K J' H' d v → Q v H'
theorem cutD_rel {K : PySem.W.Frag} {J : Jn} {H : Hp} {ds : List D} {vs : List V} {lo hi : Option Int} (r : RDs K J H ds vs) : RDs K J H (cutD ds lo hi) (cutV vs lo hi) := by
  unfold cutD cutV
  rw [r.length]
  exact (r.drop _).take _
theorem cutD_whole {ds : List D} {lo hi : Option Int} (e : HT.sIx ds.length 0 lo = 0 ∧ HT.sIx ds.length ds.length hi = ds.length) : cutD ds lo hi = ds := by
  unfold cutD
  rw [e.1, e.2]; simp
theorem sl_all : SlR X (rSl X.K) := by
  intro pins s σ H x v vl vu lo hi sl Q I rx hs pl pu ⟨J, h, dx, d, rh, r1, e, q⟩
  unfold opSlc at e
  split at e
  · cases e
    obtain ⟨p, ws, ex, hq, z, rr⟩ := r1.tup_inv
    refine sl_tupA pins s σ H x v vl vu lo hi sl Q I rx hs pl pu ⟨p, ws, ex, hq, fun hw => ?_, fun _ p' np => ?_⟩
    · refine q _ _ _ Ext.refl rh ?_
      rw [cutD_whole (by rw [rr.length]; exact hw), ← ex]; exact r1
    · exact q _ _ _ (Ext.laid np) (rh.laid np) (RD.newTup rh np (cutD_rel rr) (Nat.le_trans (cutV_length _ _ _) z))
  · split at e
    · rename_i xs e2
      cases e
      obtain ⟨p, ws, ex, hq, z, rr⟩ := res_inv rh e2 r1
      exact sl_list pins s σ H x v vl vu lo hi sl Q I rx hs pl pu ⟨p, ws, ex, hq, fun p' np =>
        q _ _ _ (Ext.laid np) (rh.laid np) (RD.newLst rh np (cutD_rel rr) (Nat.le_trans (cutV_length _ _ _) z))⟩
    · cases e

/-! ### built-in functions -/
def rBf (K : PySem.W.Frag) (f : Hh → List D → Option D) : List V → Hp → VK → Prop := fun xs H Q => ∃ J h ds d, RH K J h H ∧ RDs K J H ds xs ∧ f h ds = some d ∧ ∀ J' H' v, Ext J H J' H' → RH K J' h H' → RD K J' H' d v → Q v H'
theorem one_inv {K : PySem.W.Frag} {J : Jn} {H : Hp} {d : D} {vs : List V} (r : RDs K J H [d] vs) : ∃ v, vs = [v] ∧ RD K J H d v := by
  cases r with | cons a b => cases b; exact ⟨_, rfl, a⟩
theorem two_inv {K : PySem.W.Frag} {J : Jn} {H : Hp} {d e : D} {vs : List V} (r : RDs K J H [d, e] vs) : ∃ v w, vs = [v, w] ∧ RD K J H d v ∧ RD K J H e w := by
  cases r with | cons a b => cases b with | cons b c => cases c; exact ⟨_, _, rfl, a, b⟩
theorem bf_len : CallR X (.builtin "len") (rBf X.K (opBf .len)) := by
  intro pins s σ H xs us Q I r ⟨J, h, ds, d, rh, rs, e0, q⟩
  have seqs : ∀ (p : Addr) (ws : List V) (n : Nat), xs = [.ref p] → (SqL X.K H p ws ∨ SqT X.K H p ws) → ws.length = n → d = .int n → wpAny (model X.prog X.w) X.A (call (.builtin "len") us) (EP X pins σ Q) X.xe s := by
    intro p ws n ex hq en ed
    exact call_len_seq pins s σ H xs us Q I r ⟨p, ws, ex, hq, by rw [en]; exact q _ _ _ Ext.refl rh (by rw [ed]; exact .int _)⟩
  have e : bfLen h ds = some d := e0
  clear e0
  unfold bfLen at e
  split at e
  · cases e
    obtain ⟨w, rfl, r1⟩ := one_inv rs
    obtain ⟨p, ws, ex, hq, z, rr⟩ := r1.tup_inv
    exact seqs p ws _ (by rw [ex]) (.inr hq) rr.length.symm rfl
  · cases e
    obtain ⟨w, rfl, r1⟩ := one_inv rs
    cases r1 with
    | lst n m q1 z rr => exact seqs _ _ _ rfl (.inl (.inl (.inl q1))) rr.length.symm rfl
  · cases e
    obtain ⟨w, rfl, r1⟩ := one_inv rs
    cases r1 with
    | fz n m q1 z rr => exact seqs _ _ _ rfl (.inl (.inl (.inr ⟨_, q1⟩))) rr.length.symm rfl
    | kfz k z rr => exact seqs _ _ _ rfl (.inl (.inr k)) rr.length.symm rfl
  · obtain ⟨w, rfl, r1⟩ := one_inv rs
    split at e
    · rename_i hz; cases e; cases r1
      exact call_len_str pins s σ H _ us Q I r ⟨_, rfl, hz, q _ _ _ Ext.refl rh (.int _)⟩
    · cases e
  · obtain ⟨w, rfl, r1⟩ := one_inv rs
    cases r1 with
    | ref q1 =>
      obtain ⟨o, w, h1, h2, h3⟩ := rh.at q1
      rw [h1] at e
      cases h3 with
      | lst z rr => cases e; exact seqs _ _ _ rfl (.inl (.inl (.inl h2))) rr.length.symm rfl
      | dct z rr =>
        cases e
        refine call_lenD pins s σ H _ us Q I r ⟨_, _, rfl, h2, ?_⟩
        rw [← Paired.length rr]
        exact q _ _ _ Ext.refl rh (.int _)
  · cases e
theorem bf_int : CallR X (.type "int") (rBf X.K (opBf .int)) := by
  intro pins s σ H xs us Q I r ⟨J, h, ds, d, rh, rs, e0, q⟩
  have e : bfInt ds = some d := e0
  clear e0
  unfold bfInt at e
  split at e
  · cases e
    obtain ⟨w, rfl, r1⟩ := one_inv rs; cases r1
    exact call_int1 pins s σ H _ us Q I r (.inl ⟨_, rfl, q _ _ _ Ext.refl rh (.int _)⟩)
  · cases e
    obtain ⟨w, rfl, r1⟩ := one_inv rs; cases r1
    exact call_int1 pins s σ H _ us Q I r (.inr ⟨_, rfl, q _ _ _ Ext.refl rh (.int _)⟩)
  · cases e
theorem bf_abs : CallR X (.builtin "abs") (rBf X.K (opBf .abs)) := by
  intro pins s σ H xs us Q I r ⟨J, h, ds, d, rh, rs, e0, q⟩
  have e : bfAbs ds = some d := e0
  clear e0
  unfold bfAbs at e
  split at e
  · cases e
    obtain ⟨w, rfl, r1⟩ := one_inv rs; cases r1
    exact call_abs pins s σ H _ us Q I r ⟨_, rfl, q _ _ _ Ext.refl rh (.int _)⟩
  · cases e
theorem seq_cases {K : PySem.W.Frag} {J : Jn} {H : Hp} {h : Hh} {d : D} {ds : List D} {v : V} (rh : RH K J h H) (e : d.seq h = some ds) (r : RD K J H d v) :
    d = .tup ds ∨ ∃ a vs, v = .ref a ∧ SqL K H a vs ∧ vs.length ≤ sizeLine ∧ RDs K J H ds vs := by
  cases d with
  | tup xs => cases e; exact .inl rfl
  | lst xs => exact .inr (res_inv rh (by cases e; rfl) r)
  | fz xs => exact .inr (res_inv rh (by cases e; rfl) r)
  | ref i => exact .inr (res_inv rh (by
      simp only [D.seq] at e
      split at e
      · rename_i q; cases e; simp only [D.res, q]
      · cases e) r)
  | _ => cases e
theorem bf_tuple : CallR X (.type "tuple") (rBf X.K (opBf .tuple)) := by
  intro pins s σ H xs us Q I r ⟨J, h, ds, d, rh, rs, e0, q⟩
  have e : bfTuple h ds = some d := e0
  clear e0
  unfold bfTuple at e
  split at e
  · obtain ⟨w, rfl, r1⟩ := one_inv rs
    simp only [Option.map_eq_some_iff] at e
    obtain ⟨ys, e1, rfl⟩ := e
    rcases seq_cases rh e1 r1 with rfl | ⟨p, ws, rfl, hq, z, rr⟩
    · obtain ⟨p, ws, rfl, hq, z, rr⟩ := r1.tup_inv
      exact call_tuple_of pins s σ H _ us Q I r ⟨p, ws, rfl, .inr ⟨hq, q _ _ _ Ext.refl rh r1⟩⟩
    · exact call_tuple_of pins s σ H _ us Q I r ⟨p, ws, rfl, .inl ⟨hq, fun l nl => q _ _ _ (Ext.laid nl) (rh.laid nl) (RD.newTup rh nl rr z)⟩⟩
  · cases e
theorem bf_max (hc : X.calm = true) : CallR X (.builtin "max") (rBf X.K (opBf .max2)) := by
  intro pins s σ H xs us Q I r ⟨J, h, ds, d, rh, rs, e0, q⟩
  have e : bfMax ds = some d := e0
  clear e0
  unfold bfMax at e
  split at e
  · cases e
    obtain ⟨w, w2, rfl, r1, r2⟩ := two_inv rs; cases r1; cases r2
    exact call_max2 hc pins s σ H _ us Q I r ⟨_, _, rfl, q _ _ _ Ext.refl rh (.int _)⟩
  · cases e
theorem bf_min (hc : X.calm = true) : CallR X (.builtin "min") (rBf X.K (opBf .min2)) := by
  intro pins s σ H xs us Q I r ⟨J, h, ds, d, rh, rs, e0, q⟩
  have e : bfMin ds = some d := e0
  clear e0
  unfold bfMin at e
  split at e
  · cases e
    obtain ⟨w, w2, rfl, r1, r2⟩ := two_inv rs; cases r1; cases r2
    exact call_min2 hc pins s σ H _ us Q I r ⟨_, _, rfl, q _ _ _ Ext.refl rh (.int _)⟩
  · cases e
theorem ints_rel {K : PySem.W.Frag} {J : Jn} {H : Hp} : ∀ {ds : List D} {vs : List V} {ns : List Int}, RDs K J H ds vs → D.ints ds = some ns → vs = ns.map V.int
  | _, _, _, .nil, e => by cases e; rfl
  | _, _, _, .cons r t, e => by
    cases r <;> simp only [D.ints] at e <;> try (cases e; done)
    simp only [Option.map_eq_some_iff] at e
    obtain ⟨ms, e, rfl⟩ := e
    rw [ints_rel t e]; rfl
theorem bls_rel {K : PySem.W.Frag} {J : Jn} {H : Hp} : ∀ {ds : List D} {vs : List V} {ns : List Bool}, RDs K J H ds vs → D.bls ds = some ns → vs = ns.map V.bl
  | _, _, _, .nil, e => by cases e; rfl
  | _, _, _, .cons r t, e => by
    cases r <;> simp only [D.bls] at e <;> try (cases e; done)
    simp only [Option.map_eq_some_iff] at e
    obtain ⟨ms, e, rfl⟩ := e
    rw [bls_rel t e]; rfl
theorem lstOf_inv {d : D} {ds : List D} (e : d.lstOf = some ds) : d = .lst ds := by
  cases d <;> cases e; rfl
theorem bf_sum (hc : X.calm = true) : CallR X (.builtin "sum") (rBf X.K (opBf .sum)) := by
  intro pins s σ H xs us Q I r ⟨J, h, ds, d, rh, rs, e0, q⟩
  have e : bfSum h ds = some d := e0
  clear e0
  unfold bfSum at e
  split at e
  · obtain ⟨w, rfl, r1⟩ := one_inv rs
    simp only [Option.map_eq_some_iff, Option.bind_eq_some_iff] at e
    obtain ⟨ns, ⟨ys, e1, e2⟩, rfl⟩ := e
    obtain ⟨p, ws, rfl, hq, z, rr⟩ := res_inv rh (lstOf_inv e1) r1
    obtain rfl := ints_rel rr e2
    exact cr_sum hc pins s σ H _ us Q I r ⟨p, ns, rfl, hq, q _ _ _ Ext.refl rh (.int _)⟩
  · cases e
theorem bf_all (hc : X.calm = true) : CallR X (.builtin "all") (rBf X.K (opBf .all)) := by
  intro pins s σ H xs us Q I r ⟨J, h, ds, d, rh, rs, e0, q⟩
  have e : bfAll h ds = some d := e0
  clear e0
  unfold bfAll at e
  split at e
  · obtain ⟨w, rfl, r1⟩ := one_inv rs
    simp only [Option.map_eq_some_iff, Option.bind_eq_some_iff] at e
    obtain ⟨ns, ⟨ys, e1, e2⟩, rfl⟩ := e
    obtain ⟨p, ws, rfl, hq, z, rr⟩ := res_inv rh (lstOf_inv e1) r1
    obtain rfl := bls_rel rr e2
    exact cr_all hc pins s σ H _ us Q I r ⟨p, ns, rfl, hq, q _ _ _ Ext.refl rh (.bl _)⟩
  · cases e
theorem bf_any (hc : X.calm = true) : CallR X (.builtin "any") (rBf X.K (opBf .any)) := by
  intro pins s σ H xs us Q I r ⟨J, h, ds, d, rh, rs, e0, q⟩
  have e : bfAny h ds = some d := e0
  clear e0
  unfold bfAny at e
  split at e
  · obtain ⟨w, rfl, r1⟩ := one_inv rs
    simp only [Option.map_eq_some_iff, Option.bind_eq_some_iff] at e
    obtain ⟨ns, ⟨ys, e1, e2⟩, rfl⟩ := e
    obtain ⟨p, ws, rfl, hq, z, rr⟩ := res_inv rh (lstOf_inv e1) r1
    obtain rfl := bls_rel rr e2
    exact cr_any hc pins s σ H _ us Q I r ⟨p, ns, rfl, hq, q _ _ _ Ext.refl rh (.bl _)⟩
  · cases e
/-- repr of a list, of a tuple -/
theorem bf_repr (hu : X.A.units + 200 < cLine) (hg : X.A.guards = some []) : CallR X (.builtin "repr") (rBf X.K (opBf .repr)) := by
  intro pins s σ H xs us Q I r ⟨J, h, ds, d, rh, rs, e0, q⟩
  have e : bfRepr h ds = some d := e0
  clear e0
  unfold bfRepr at e
  split at e
  · rename_i x
    obtain ⟨w, rfl, r1⟩ := one_inv rs
    unfold reprD at e
    split at e
    · rename_i hc
      cases e
      (simp only [Bool.and_eq_true, decide_eq_true_eq] at hc)
      obtain ⟨⟨⟨h1, h2⟩, h3⟩, h4⟩ := hc
      have hl : (x.res h).lay = true := by simp only [D.shp, Bool.and_eq_true] at h2; exact h2.1
      have hd : (x.res h).dep ≤ 64 := by simp only [D.shp, Bool.and_eq_true, decide_eq_true_eq] at h2; exact h2.2
      have dp := res_dp rh hl r1
      obtain ⟨u, rfl⟩ : ∃ a, w = .ref a := by
        generalize x.res h = y at dp h1
        cases y with
        | tup ys => simp only [D.py] at dp; cases dp; exact ⟨_, rfl⟩
        | lst ys => simp only [D.py] at dp; cases dp; exact ⟨_, rfl⟩
        | _ => cases h1
      obtain rfl := Vals.ref1 r
      obtain ⟨as, rd⟩ := Dp.reads I _ _ (.ref u) dp rfl
      exact repr_of_reads' rd h3 (PyData.noDict_hsm (PyData.hasDict_of_canLay _ (lay_py _ hl))) hg (by rw [dep_py _ hl]; omega) (fun _ _ z => z) (fun h' t tk hk => ⟨.str _, H, I.kept hk, ⟨_, rfl⟩, q _ _ _ Ext.refl rh (.str _)⟩) h4
    · cases e
  · cases e
/-- list(x): a new list -/
theorem bf_list : CallR X (.type "list") (fun xs H Q => ∃ J h ds d, RH X.K J h H ∧ RDs X.K J H ds xs ∧ bfList h ds = some d ∧ ∀ p ys vs, d = .lst ys → H p = none → vs.length ≤ sizeLine → RDs X.K J H ys vs → Q (.ref p) (upd H p (.lst vs))) := by
  intro pins s σ H xs us Q I r ⟨J, h, ds, d, rh, rs, e, q⟩
  unfold bfList at e
  split at e
  · obtain ⟨w, rfl, r1⟩ := one_inv rs
    simp only [Option.map_eq_some_iff] at e
    obtain ⟨ys, e, rfl⟩ := e
    obtain ⟨p, ws, rfl, hq, z, rr⟩ := seq_inv rh e r1
    exact call_list_of pins s σ H _ us Q I r ⟨p, ws, rfl, hq, fun l nl => q l _ _ rfl nl z rr⟩
  · cases e

/-! ### isinstance -/
def Ty.nm : Ty → String
  | .int => "int" | .str => "str" | .tup => "tuple" | .lst => "list" | .bl => "bool" | .dct => "dict" | .non => "NoneType"
def D.tyn (h : Hh) : D → String
  | .non => "NoneType" | .bl _ => "bool" | .int _ => "int" | .str _ => "str" | .tup _ => "tuple" | .lst _ => "list" | .fz _ => "list"
  | .ref i => match h[i]? with
    | some (.dct _) => "dict"
    | _ => "list"
theorem tyx_of {K : PySem.W.Frag} {J : Jn} {H : Hp} {h : Hh} {d : D} {v : V} (rh : RH K J h H) (r : RD K J H d v) : TyX K H v (.type (d.tyn h)) := by
  cases r with
  | non => exact .base .non
  | bl b => exact .base (.bl b)
  | int i => exact .base (.int i)
  | str x => exact .base (.str x)
  | tup n m q z r => exact .base (.tup q)
  | ktup k z r => obtain ⟨o, its, n, k1, k2, _⟩ := k; exact .kTuple k1 k2
  | lst n m q z r => exact .base (.lst q)
  | fz n m q z r => exact .base (.frz q)
  | kfz k z r => obtain ⟨o, its, n, k1, k2, _⟩ := k; exact .kList k1 k2
  | ref q =>
    obtain ⟨o, u, h1, h2, h3⟩ := rh.at q
    simp only [D.tyn, h1]
    cases h3 with
    | lst z r => exact .base (.lst h2)
    | dct z r => exact .base (.dK h2)
theorem isi_kit : ∀ (t : Ty) (n : String), n ∈ ["NoneType", "bool", "int", "str", "tuple", "list", "dict"] → kitB n t.nm = some (decide (n = t.nm) || (decide (n = "bool") && decide (t.nm = "int"))) := by
  intro t n hn
  simp only [List.mem_cons, List.not_mem_nil, or_false] at hn
  cases t <;> rcases hn with rfl | rfl | rfl | rfl | rfl | rfl | rfl <;> decide +kernel
theorem isi_ops {t : Ty} : CallR X (.builtin "isinstance") (fun xs H Q => ∃ J h d v, RH X.K J h H ∧ RD X.K J H d v ∧ xs = [v, .ty t.nm] ∧ Q (.bl (opIsi t h d)) H) := by
  intro pins s σ H xs us Q I r ⟨J, h, d, v, rh, r1, ex, q⟩
  have hn : d.tyn h ∈ ["NoneType", "bool", "int", "str", "tuple", "list", "dict"] := by
    cases d <;> simp only [D.tyn] <;> try decide
    split <;> decide
  have e := isi_kit t _ hn
  have e2 : (decide (d.tyn h = t.nm) || (decide (d.tyn h = "bool") && decide (t.nm = "int"))) = opIsi t h d := by
    cases r1 with
    | ref q1 =>
      obtain ⟨o, w, h1, h2, h3⟩ := rh.at q1
      cases o <;> cases t <;> simp [opIsi, D.tyn, h1, Ty.nm]
    | _ => cases t <;> simp [opIsi, D.tyn, Ty.nm]
  rw [e2] at e
  exact call_isi pins s σ H xs us Q I r ⟨v, .ty t.nm, .type (d.tyn h), .type t.nm, _, ex, .ty _, tyx_of rh r1, kit_ty e, q⟩

/-! ### methods -/
def rMt (K : PySem.W.Frag) (m : Mt) : V → List V → Hp → VK → Prop := fun x xs H Q => ∃ J h dx ds d h', RH K J h H ∧ RD K J H dx x ∧ RDs K J H ds xs ∧ mthOp m dx ds h = .ok d h' ∧ ∀ J' H' v, Ext J H J' H' → RH K J' h' H' → RD K J' H' d v → Q v H'
theorem RH.writeL {K : PySem.W.Frag} {J : Jn} {h : Hh} {H : Hp} {i : Nat} {a : Addr} {ds : List D} {vs : List V} (rh : RH K J h H) (q : J.l[i]? = some a) (z : vs.length ≤ sizeLine) (r : RDs K J H ds vs) : RH K J (h.set i (.lst ds)) (upd H a (.lst vs)) :=
  rh.write q (.lst z (r.ext (Ext.write q)))
theorem mt_lst {K : PySem.W.Frag} {J : Jn} {h : Hh} {H : Hp} {m : Mt} {x : V} {dx d : D} {ds : List D} {h' : Hh} (rh : RH K J h H) (r1 : RD K J H dx x) (e : mthOp m dx ds h = .ok d h') :
    ∃ i a ys ws ys', x = .ref a ∧ J.l[i]? = some a ∧ H a = some (.lst ws) ∧ ws.length ≤ sizeLine ∧ RDs K J H ys ws ∧ mtL m ys ds = some (d, ys') ∧ h' = h.set i (.lst ys') := by
  cases r1 with
  | ref q1 =>
    obtain ⟨o, w, h1, h2, h3⟩ := rh.at q1
    simp only [mthOp, mthRef, h1] at e
    cases h3 with
    | lst z rr =>
      dsimp only at e
      split at e
      · rename_i p hp; cases e; exact ⟨_, _, _, _, _, rfl, q1, h2, z, rr, hp, rfl⟩
      · cases e
    | dct z rr => cases e
  | _ => cases e
theorem mt_appendD : MtR X "list.append" (rMt X.K .append) := by
  intro pins s σ H x xs v us Q I rx rs ⟨J, h, dx, ds, d, h', rh, r1, r2, e, q⟩
  obtain ⟨i, a, ys, ws, ys', rfl, q1, h2, z, rr, e1, rfl⟩ := mt_lst rh r1 e
  have e2 : mtAppend ys ds = some (d, ys') := e1
  unfold mtAppend at e2
  split at e2
  · split at e2
    · rename_i hz; cases e2
      obtain ⟨y, rfl, ry⟩ := one_inv r2
      have hs : ws.length + 1 ≤ sizeLine := by rw [← rr.length]; exact size_of hz
      exact mt_append pins s σ H _ _ v us Q I rx rs ⟨_, ws, y, rfl, rfl, h2, hs, q _ _ _ (Ext.write q1) (rh.writeL q1 (by rw [List.length_append]; exact hs) (rr.append (.cons ry .nil))) .non⟩
    · cases e2
  · cases e2
theorem mt_popD : MtR X "list.pop" (fun x xs H Q => rMt X.K .pop x xs H Q ∨ rMt X.K .popAt x xs H Q) := by
  intro pins s σ H x xs v us Q I rx rs hw
  rcases hw with ⟨J, h, dx, ds, d, h', rh, r1, r2, e, q⟩ | ⟨J, h, dx, ds, d, h', rh, r1, r2, e, q⟩
  · obtain ⟨i, a, ys, ws, ys', rfl, q1, h2, z, rr, e1, rfl⟩ := mt_lst rh r1 e
    have e2 : mtPop ys ds = some (d, ys') := e1
    unfold mtPop at e2
    split at e2
    · simp only [Option.map_eq_some_iff] at e2
      obtain ⟨y, hy, e3⟩ := e2
      cases e3
      rw [rr.length] at hy
      obtain ⟨w, hw, rw'⟩ := rr.get hy
      cases r2
      exact mt_pop pins s σ H _ _ v us Q I rx rs ⟨_, ws, w, rfl, rfl, h2, hw, q _ _ _ (Ext.write q1) (rh.writeL q1 (by rw [List.length_dropLast]; omega) rr.dropLast) (rw'.ext (Ext.write q1))⟩
    · cases e2
  · obtain ⟨i, a, ys, ws, ys', rfl, q1, h2, z, rr, e1, rfl⟩ := mt_lst rh r1 e
    have e2 : mtPopAt ys ds = some (d, ys') := e1
    unfold mtPopAt at e2
    split at e2
    · simp only [Option.map_eq_some_iff, Option.bind_eq_some_iff] at e2
      obtain ⟨j, hk, y, hy, e3⟩ := e2
      cases e3
      rw [rr.length] at hk
      obtain ⟨w, hw, rw'⟩ := rr.get hy
      obtain ⟨s1, s2, s3, s4⟩ := ixN_seq hk
      obtain ⟨y2, rfl, ry⟩ := one_inv r2
      cases ry
      have hs := sizeLine_eq
      refine mt_popAt pins s σ H _ _ v us Q I rx rs ⟨_, ws, _, j, w, rfl, rfl, h2, by omega, by omega, s1, hw, q _ _ _ (Ext.write q1) (rh.writeL q1 ?_ (rr.eraseIdx _)) (rw'.ext (Ext.write q1))⟩
      have := List.length_eraseIdx_le ws j
      omega
    · cases e2
end
end PV
end

section
set_option maxRecDepth 100000
namespace PV
open L2 PySem PySem.Spec PyProof.Rows

/-! ### the text's forms -/
def asName : Expr → Option Str
  | .Name x _ => some x
  | _ => none
def asCon : Expr → Option Const
  | .Constant k _ _ => some k
  | _ => none
def asTup : Expr → Option (List Expr)
  | .Tuple xs _ _ => some xs
  | _ => none
def asLst : Expr → Option (List Expr)
  | .List xs _ => some xs
  | _ => none
def asBin : Expr → Option (Expr × Operator × Expr)
  | .BinOp a o b _ => some (a, o, b)
  | _ => none
def asUn : Expr → Option (UnaryOp × Expr)
  | .UnaryOp o a _ => some (o, a)
  | _ => none
def asCmp1 : Expr → Option (Expr × CmpOp × Expr)
  | .Compare a [o] [b] _ => some (a, o, b)
  | _ => none
def asCmp2 : Expr → Option (Expr × CmpOp × CmpOp × Expr × Expr)
  | .Compare a [o, p] [b, c] _ => some (a, o, p, b, c)
  | _ => none
def asBool : Expr → Option (BoolOp × Expr × List Expr)
  | .BoolOp o (a :: es) _ => some (o, a, es)
  | _ => none
def asIf : Expr → Option (Expr × Expr × Expr)
  | .IfExp c a b _ => some (c, a, b)
  | _ => none
def asSub : Expr → Option (Expr × Expr)
  | .Subscript a i _ => some (a, i)
  | _ => none
def asSlc : Expr → Option (Option Expr × Option Expr)
  | .Slice lo hi none _ => some (lo, hi)
  | _ => none
def asCall : Expr → Option (Str × List Expr)
  | .Call (.Name x _) es [] _ => some (x, es)
  | _ => none
def asMth : Expr → Option (Expr × Str × List Expr)
  | .Call (.Attribute o m apos) es [] cpos => if apos.endLine == cpos.line then some (o, m, es) else none
  | _ => none
def asLc : Expr → Option (Expr × Expr × Expr × List Expr × Scope)
  | .ListComp elt [⟨tg, iter, ifs, a⟩] scope _ => if a = 0 then some (elt, tg, iter, ifs, scope) else none
  | _ => none
def asDic0 : Expr → Bool
  | .Dict [] [] _ => true
  | _ => false
def asIsi : Expr → Option (Str × Expr × Str)
  | .Call (.Name f _) [a, .Name ty _] [] _ => some (f, a, ty)
  | _ => none
def asTenum : Expr → Option (Str × Str × Expr)
  | .Call (.Name f _) [.Call (.Name g _) [a] [] _] [] _ => some (f, g, a)
  | _ => none
def asCallK : Expr → Option (Str × List Expr × List Keyword)
  | .Call (.Name x _) es kws _ => some (x, es, kws)
  | _ => none
/-- not a star, a set display or a slice -/
def plainX : Expr → Bool
  | .Starred .. => false
  | .Set .. => false
  | .Slice .. => false
  | _ => true
section
variable {e : Expr}
theorem asName_eq {x : Str} (h : asName e = some x) : ∃ p, e = .Name x p := by cases e <;> simp [asName] at h; exact ⟨_, by rw [h]⟩
theorem asCon_eq {x : Const} (h : asCon e = some x) : ∃ k p, e = .Constant x k p := by cases e <;> simp [asCon] at h; exact ⟨_, _, by rw [h]⟩
theorem asTup_eq {x : List Expr} (h : asTup e = some x) : ∃ k p, e = .Tuple x k p := by cases e <;> simp [asTup] at h; exact ⟨_, _, by rw [h]⟩
theorem asLst_eq {x : List Expr} (h : asLst e = some x) : ∃ p, e = .List x p := by cases e <;> simp [asLst] at h; exact ⟨_, by rw [h]⟩
theorem asBin_eq {a b : Expr} {o : Operator} (h : asBin e = some (a, o, b)) : ∃ p, e = .BinOp a o b p := by
  cases e <;> simp [asBin] at h; obtain ⟨rfl, rfl, rfl⟩ := h; exact ⟨_, rfl⟩
theorem asUn_eq {a : Expr} {o : UnaryOp} (h : asUn e = some (o, a)) : ∃ p, e = .UnaryOp o a p := by
  cases e <;> simp [asUn] at h; obtain ⟨rfl, rfl⟩ := h; exact ⟨_, rfl⟩
theorem asCmp1_eq {a b : Expr} {o : CmpOp} (h : asCmp1 e = some (a, o, b)) : ∃ p, e = .Compare a [o] [b] p := by
  unfold asCmp1 at h
  split at h
  · cases h; exact ⟨_, rfl⟩
  · cases h
theorem asCmp2_eq {a b c : Expr} {o p : CmpOp} (h : asCmp2 e = some (a, o, p, b, c)) : ∃ q, e = .Compare a [o, p] [b, c] q := by
  unfold asCmp2 at h
  split at h
  · cases h; exact ⟨_, rfl⟩
  · cases h
theorem asBool_eq {a : Expr} {o : BoolOp} {es : List Expr} (h : asBool e = some (o, a, es)) : ∃ p, e = .BoolOp o (a :: es) p := by
  unfold asBool at h
  split at h
  · cases h; exact ⟨_, rfl⟩
  · cases h
theorem asIf_eq {a b c : Expr} (h : asIf e = some (c, a, b)) : ∃ p, e = .IfExp c a b p := by
  cases e <;> simp [asIf] at h; obtain ⟨rfl, rfl, rfl⟩ := h; exact ⟨_, rfl⟩
theorem asSub_eq {a i : Expr} (h : asSub e = some (a, i)) : ∃ p, e = .Subscript a i p := by
  cases e <;> simp [asSub] at h; obtain ⟨rfl, rfl⟩ := h; exact ⟨_, rfl⟩
theorem asSlc_eq {lo hi : Option Expr} (h : asSlc e = some (lo, hi)) : ∃ p, e = .Slice lo hi none p := by
  unfold asSlc at h
  split at h
  · cases h; exact ⟨_, rfl⟩
  · cases h
theorem asCall_eq {x : Str} {es : List Expr} (h : asCall e = some (x, es)) : ∃ p q, e = .Call (.Name x p) es [] q := by
  unfold asCall at h
  split at h
  · cases h; exact ⟨_, _, rfl⟩
  · cases h
theorem asMth_eq {o : Expr} {m : Str} {es : List Expr} (h : asMth e = some (o, m, es)) : ∃ p q, e = .Call (.Attribute o m p) es [] q ∧ (p.endLine == q.line) = true := by
  unfold asMth at h
  split at h
  · split at h
    · rename_i hl; cases h; exact ⟨_, _, rfl, hl⟩
    · cases h
  · cases h
theorem asLc_eq {elt tg iter : Expr} {ifs : List Expr} {scope : Scope} (h : asLc e = some (elt, tg, iter, ifs, scope)) : ∃ p, e = .ListComp elt [⟨tg, iter, ifs, 0⟩] scope p := by
  unfold asLc at h
  split at h
  · split at h
    · rename_i ha; cases h; subst ha; exact ⟨_, rfl⟩
    · cases h
  · cases h
theorem asDic0_eq (h : asDic0 e = true) : ∃ p, e = .Dict [] [] p := by
  unfold asDic0 at h
  split at h
  · exact ⟨_, rfl⟩
  · cases h
theorem asIsi_eq {f ty : Str} {a : Expr} (h : asIsi e = some (f, a, ty)) : ∃ p q r, e = .Call (.Name f p) [a, .Name ty q] [] r := by
  unfold asIsi at h
  split at h
  · cases h; exact ⟨_, _, _, rfl⟩
  · cases h
theorem asTenum_eq {f g : Str} {a : Expr} (h : asTenum e = some (f, g, a)) : ∃ p q r s, e = .Call (.Name f p) [.Call (.Name g q) [a] [] r] [] s := by
  unfold asTenum at h
  split at h
  · cases h; exact ⟨_, _, _, _, rfl⟩
  · cases h
theorem asCallK_eq {x : Str} {es : List Expr} {kws : List Keyword} (h : asCallK e = some (x, es, kws)) : ∃ p q, e = .Call (.Name x p) es kws q := by
  unfold asCallK at h
  split at h
  · cases h; exact ⟨_, _, rfl⟩
  · cases h
theorem plain_star (h : plainX e = true) (es : List Expr) (env : PySem.Env) : starEach (e :: es) env = (false, eval e env) :: starEach es env := by
  cases e <;> first | rfl | simp [plainX] at h
theorem plain_mark (h : plainX e = true) (o : CmpOp) : behindInMarks o e = false := by cases e <;> first | rfl | simp [plainX] at h
theorem plain_fold (h : plainX e = true) (env : PySem.Env) (x : Value) : foldedSetIterable e env x = pure x := by cases e <;> first | rfl | simp [plainX] at h
theorem plain_ix (h : plainX e = true) : PlainIx e := by intro o i; cases e <;> first | rfl | simp [plainX] at h
end
end PV
end

section
set_option maxRecDepth 100000
namespace PV
open L2 PySem PySem.Spec PyProof.Rows

/-! ### what is known of the place where a piece stands -/
structure Cs where
  N : List Str
  sc : Scope
  fn : Str → Bool
  bs : List Str
  T : List Fn
  gn : List Str
def spF (K : PySem.W.Frag) (F : Fns) (f : Nat) (n : Nat) : Sp := fun vs H Q _ => vs.length = n ∧ ∃ J h ds, RDs K J H ds vs ∧ RH K J h H ∧ Post K J H (rD K) (F f ds h) Q
/-- how a call with keywords binds -/
structure KwOk (K : PySem.W.Frag) (fd : FuncData) (ps : List Str) (n : Nat) (ks : List Str) (pm : List Nat) : Prop where
  to : ∀ (s : Shared) (us ws : List Value), K.In s.heap → us.length = n → ws.length = ks.length → BindsTo s fd ⟨us, ks.zip ws⟩ (ps.zip (pmD .none pm us ws))
  len : pm.length = ps.length
/-- what a def promises where no repr is under way -/
structure FnG (P : Program) (w : World) (K : PySem.W.Frag) (mg : Str → Option Value) (base : Heap) (k : Nat) (f : Addr) (fd : FuncData) (ps : List Str) (sp : Sp) : Prop where
  len : ∀ vs H Q E, (sp vs H Q E → vs.length = ps.length)
  go : ∀ {A : Around} {out : List PySem.Env} {s : Shared} {H : Hp} {args : Args} {us : List Value} {vs : List V} {Q : VK}, Room k A → A.guards = some [] → Env0 P w K mg base A out s H → BindsTo s fd args (ps.zip us) → Vals vs us → sp vs H Q E0 →
    codeAny (model P w) A (.call (.ref f) args) (CR CX0 out P w H s Q E0) s
structure CallOk (T : List Fn) (F : Fns) (X : Cx) : Prop where
  ok : ∃ k, Room k X.A ∧ X.A.guards = some [] ∧ ∀ (f : Nat) (fn : Fn), T[f]? = some fn → ∃ a fd, X.mg fn.name = some (.ref a) ∧ PySem.W.keepIn X.K (.ref a) = true ∧ FnG X.prog X.w X.K X.mg X.base k a fd fn.P (spF X.K F f fn.P.length) ∧ Binds X.K fd fn.P [] ∧ ∀ q ∈ fn.kw, KwOk X.K fd fn.P q.1 q.2.1 q.2.2
structure Ok (c : Cs) (F : Fns) (G : List D) (X : Cx) : Prop where
  hN : X.N = c.N
  nd : X.N.Nodup
  sc : X.env.scope = c.sc
  fn : X.fn = c.fn
  calm : X.calm = true
  call : CallOk c.T F X
  blt : ∀ x ∈ c.bs, X.mg x = none
  glo : ∀ (i : Nat) (x : Str) (d : D), c.gn[i]? = some x → G[i]? = some d → ∃ v u, X.mg x = some u ∧ L2.RelV v u ∧ ∀ J H, RD X.K J H d v
def Cs.vis (c : Cs) (i : Nat) (x : Str) : Bool :=
  decide (c.N[i]? = some x) && (match c.sc.names.lookup x with | some .local => true | some .cell => true | some .free => true | _ => false) && !(x == ("__debug__" : Str)) && !(x == ("__classdict__" : Str))
def Cs.loc (c : Cs) (i : Nat) (x : Str) : Bool :=
  decide (c.N[i]? = some x) && (match c.sc.names.lookup x with | some .local => true | some .cell => c.fn x | _ => false)
def Cs.glb (c : Cs) (x : Str) : Bool :=
  (match c.sc.names.lookup x with | some .globalImplicit => true | _ => false) && !(x == ("__debug__" : Str))
section
variable {c : Cs} {F : Fns} {G : List D} {X : Cx}
theorem Ok.units (o : Ok c F G X) : X.A.units + 200 < cLine := by
  obtain ⟨k, hr, _, _⟩ := o.call.ok
  have := hr.un; omega
theorem Ok.guards (o : Ok c F G X) : X.A.guards = some [] := by
  obtain ⟨k, _, h, _⟩ := o.call.ok
  exact h
theorem vis_ok (o : Ok c F G X) {i : Nat} {x : Str} (h : c.vis i x = true) : X.N[i]? = some x ∧ Vis X.env.scope x ∧ (x == ("__debug__" : Str)) = false ∧ (x == ("__classdict__" : Str)) = false := by
  simp only [Cs.vis, Bool.and_eq_true, decide_eq_true_eq, Bool.not_eq_true'] at h
  (obtain ⟨⟨⟨h1, h2⟩, h3⟩, h4⟩ := h)
  refine ⟨by rw [o.hN]; exact h1, ?_, h3, h4⟩
  unfold Vis
  rw [o.sc]
  split at h2
  · exact .inl (by assumption)
  · exact .inr (.inl (by assumption))
  · exact .inr (.inr (by assumption))
  · cases h2
theorem loc_ok (o : Ok c F G X) {i : Nat} {x : Str} (h : c.loc i x = true) : X.N[i]? = some x ∧ L2.Loc X.env.scope x ∧ (X.fn x = true ∨ X.env.scope.names.lookup x = some .local) := by
  simp only [Cs.loc, Bool.and_eq_true, decide_eq_true_eq] at h
  obtain ⟨h1, h2⟩ := h
  refine ⟨by rw [o.hN]; exact h1, ?_, ?_⟩
  · unfold L2.Loc
    rw [o.sc]
    split at h2
    · exact .inl (by assumption)
    · exact .inr (by assumption)
    · cases h2
  · rw [o.sc, o.fn]
    split at h2
    · exact .inr (by assumption)
    · exact .inl h2
    · cases h2
theorem glb_ok (o : Ok c F G X) {x : Str} (h : c.glb x = true) : Gl X x ∧ (x == ("__debug__" : Str)) = false := by
  simp only [Cs.glb, Bool.and_eq_true, Bool.not_eq_true'] at h
  refine ⟨?_, h.2⟩
  have h1 := h.1
  unfold Gl PySem.Env.kindOf
  rw [o.sc]
  split at h1
  · assumption
  · cases h1
end

/-! ### what a piece's proof gives -/
structure SE (X : Cx) (e : Expr) (p : P) : Prop where
  v : PE X e (tG X.K (rD X.K) p.v)
  t : PT X e (tG X.K rB p.t)
structure SEs (X : Cx) (es : List Expr) (p : PL) : Prop where
  l : PA X es (tG X.K (rDs X.K) p.l)
  nil : p.nil = es.isEmpty
  kw : ∀ kws : List Keyword, kws.map (·.value) = es → PK X kws (tG X.K (rDs X.K) p.l)
  an : ∀ pos, PE X (.BoolOp .And es pos) (tG X.K (rD X.K) p.an)
  on : ∀ pos, PE X (.BoolOp .Or es pos) (tG X.K (rD X.K) p.on)
  at_ : ∀ pos, PW X (.BoolOp .And es pos) (tG X.K rB p.at_)
  ot : ∀ pos, PW X (.BoolOp .Or es pos) (tG X.K rB p.ot)
section
variable {X : Cx} {e x a b : Expr} {p pa pb pc : P} {pos : Pos}
theorem tru_rel {K : PySem.W.Frag} {J : Jn} {h : Hh} {H : Hp} {d : D} {v : V} {b : Bool} (rh : RH K J h H) (r : RD K J H d v) (e : d.tru h = some b) : TruV K v H b := by
  cases d with
  | non => cases r; cases e; rfl
  | bl c => cases r; cases e; rfl
  | int i => cases r; cases e; rfl
  | str y =>
    cases r
    simp only [D.tru] at e
    split at e
    · rename_i hz; cases e; exact ⟨hz, rfl⟩
    · cases e
  | tup xs =>
    cases e
    obtain ⟨a, vs, rfl, hq, z, rr⟩ := r.tup_inv
    refine .inr (.inl ⟨vs, hq, ?_⟩)
    cases rr <;> rfl
  | lst xs =>
    cases e
    obtain ⟨a, vs, rfl, hq, z, rr⟩ := res_inv rh rfl r
    refine .inl ⟨vs, hq, ?_⟩
    cases rr <;> rfl
  | fz xs =>
    cases e
    obtain ⟨a, vs, rfl, hq, z, rr⟩ := res_inv rh rfl r
    refine .inl ⟨vs, hq, ?_⟩
    cases rr <;> rfl
  | ref i =>
    cases r with
    | ref q =>
      obtain ⟨o, u, h1, h2, h3⟩ := rh.at q
      simp only [D.tru, h1] at e
      cases h3 with
      | lst z rr => cases e; refine .inl ⟨_, .inl (.inl h2), ?_⟩; cases rr <;> rfl
      | dct z rr => cases e; refine .inr (.inr ⟨_, h2, ?_⟩); cases rr <;> rfl
/-- an expression whose test is its value's truth -/
theorem SE.plain {v : Env → Hh → R D} (hv : PE X x (tG X.K (rD X.K) v)) (he : ∀ whole, isTrue x X.env whole = (do let v ← whole; standAt x.pos; holding [v] (truthy v))) : SE X x (.plain v) := by
  refine ⟨hv, (pt_truth hv he).imp fun σ H Q ⟨ρ, h, J, re, rh, q⟩ => ?_⟩
  refine (Post.step (R1 := rD X.K) (f := v) re rh q).mono fun y H1 ⟨J1, h1, d, e1, re1, rh1, rd, q1⟩ => ?_
  obtain ⟨b, hb, q2⟩ := Post.opt rh1 q1
  exact ⟨b, tru_rel rh1 rd hb, q2 b rfl⟩
theorem SE.ofB {v : Env → Hh → R D} {t : Env → Hh → R Bool} (hv : PE X x (tG X.K (rD X.K) v)) (ht : PT X x (tG X.K rB t)) : SE X x ⟨v, t⟩ := ⟨hv, ht⟩

theorem se_var {i : Nat} {y : Str} {c : Cs} {F : Fns} {G : List D} (o : Ok c F G X) (h : c.vis i y = true) : SE X (.Name y pos) (evE F G (.var i)) := by
  obtain ⟨h1, h2, h3, h4⟩ := vis_ok o h
  refine SE.plain ((pe_var h1 h2 h3 h4).imp fun σ H Q ⟨ρ, hh, J, re, rh, q⟩ => ?_) (fun _ => rfl)
  cases e : ρ[i]? with
  | none => simp only [e] at q; exact False.elim q
  | some od =>
    cases od with
    | none => simp only [e] at q; exact False.elim q
    | some d =>
      simp only [e] at q
      obtain ⟨v, hv, rd⟩ := re.get i d e
      exact ⟨v, hv, q J H v Ext.refl rh rd⟩
def conM : D → Const → Bool
  | .non, .none => true
  | .bl a, .bool b => a == b
  | .int i, .int j => decide (i = j)
  | .str a, .str b => decide (a = b)
  | _, _ => false
theorem se_con {d : D} {k : Const} {n : Nat} {F : Fns} {G : List D} (h : conM d k = true) : SE X (.Constant k n pos) (evE F G (.con d)) := by
  refine SE.plain ?_ (fun _ => rfl)
  unfold conM at h
  split at h
  · exact pe_non.imp fun σ H Q ⟨ρ, hh, J, re, rh, q⟩ => q J H _ Ext.refl rh .non
  · have := beq_iff_eq.mp h; subst this
    exact pe_bl.imp fun σ H Q ⟨ρ, hh, J, re, rh, q⟩ => q J H _ Ext.refl rh (.bl _)
  · have := of_decide_eq_true h; subst this
    exact pe_int.imp fun σ H Q ⟨ρ, hh, J, re, rh, q⟩ => q J H _ Ext.refl rh (.int _)
  · have := of_decide_eq_true h; subst this
    exact pe_str.imp fun σ H Q ⟨ρ, hh, J, re, rh, q⟩ => q J H _ Ext.refl rh (.str _)
  · cases h
theorem se_glo {i : Nat} {y : Str} {c : Cs} {F : Fns} {G : List D} (o : Ok c F G X) (h : c.gn[i]? = some y) (hg : c.glb y = true) : SE X (.Name y pos) (evE F G (.glo i)) := by
  obtain ⟨h1, h2⟩ := glb_ok o hg
  refine SE.plain ?_ (fun _ => rfl)
  cases e : G[i]? with
  | none => exact ⟨fun pins s σ H Q I ⟨ρ, hh, J, re, rh, q⟩ => by exact False.elim q⟩
  | some d =>
    obtain ⟨v, u, hm, rv, rd⟩ := o.glo i y d h e
    exact (pe_glob h1 hm rv h2).imp fun σ H Q ⟨ρ, hh, J, re, rh, q⟩ => by
      exact q J H v Ext.refl rh (rd J H)

/-! ### operators -/
theorem se_bin' {op : Operator} {f : Hh → D → D → Option D} (ho : OpR X (binaryOp op) (rOp X.K f)) (ha : SE X a pa) (hb : SE X b pb) :
    SE X (.BinOp a op b pos) (.plain fun ρ h => (pa.v ρ h).bind fun x h1 => (pb.v ρ h1).bind fun y h2 => R.opt (f h2 x y) h2) := by
  refine SE.plain ((pe_op ho ha.v hb.v).imp fun σ H Q ⟨ρ, h, J, re, rh, q⟩ => ?_) (fun _ => rfl)
  refine (Post.step (R1 := rD X.K) (f := pa.v) re rh q).mono fun x H1 ⟨J1, h1, dx, e1, re1, rh1, rx, q1⟩ => ?_
  refine (Post.step (R1 := rD X.K) (f := pb.v) re1 rh1 q1).mono fun y H2 ⟨J2, h2, dy, e2, re2, rh2, ry, q2⟩ => ?_
  obtain ⟨d, hd, q3⟩ := Post.optX q2
  exact ⟨J2, h2, dx, dy, d, rh2, rx.ext e2, ry, hd, q3⟩
def bopM : BOp → Operator → Bool
  | .add, .Add => true
  | .sub, .Sub => true
  | .mul, .Mult => true
  | .fdiv, .FloorDiv => true
  | .mod, .Mod => true
  | .pow, .Pow => true
  | _, _ => false
theorem bopM_ok {o : BOp} {p : Operator} (h : bopM o p = true) : OpR X (binaryOp p) (rOp X.K (opBin o)) := by
  unfold bopM at h
  split at h
  · exact ops_add
  · exact ops_sub
  · exact ops_mul
  · exact ops_fdiv
  · exact ops_mod
  · exact ops_pow
  · cases h
def copM : COp → CmpOp → Bool
  | .eq, .Eq => true
  | .ne, .NotEq => true
  | .lt, .Lt => true
  | .le, .LtE => true
  | .gt, .Gt => true
  | .ge, .GtE => true
  | .inn, .In => true
  | .nin, .NotIn => true
  | .is, .Is => true
  | .isn, .IsNot => true
  | _, _ => false
theorem copM_ok (hu : X.A.units + 200 < cLine) {o : COp} {p : CmpOp} (h : copM o p = true) : OpR X (compareOp p) (rCmp X.K (opCmp o)) := by
  unfold copM at h
  split at h
  · exact ops_eq (by omega)
  · exact ops_ne (by omega)
  · exact ops_lt
  · exact ops_le
  · exact ops_gt
  · exact ops_ge
  · exact ops_in (by omega)
  · exact ops_nin (by omega)
  · exact ops_is
  · exact ops_isn
  · cases h
/-- a test that is known as a value -/
theorem pt_ofV {e : Expr} {r : TE} (h : PT X e (tTest r)) {t : L2.St → Hp → (Bool → Hp → Prop) → Prop} (i : ∀ σ H Q, t σ H Q → r σ H fun x H' => ∃ k, x = .bl k ∧ Q k H') : PT X e t := h.imp i
theorem se_cmp' {op : CmpOp} {f : Hh → D → D → Option Bool} (ho : OpR X (compareOp op) (rCmp X.K f)) (hp : plainX b = true) (ha : SE X a pa) (hb : SE X b pb) :
    SE X (.Compare a [op] [b] pos) (.plain fun ρ h => (pa.v ρ h).bind fun x h1 => (pb.v ρ h1).bind fun y h2 => R.opt ((f h2 x y).map D.bl) h2) := by
  have core : ∀ {σ : L2.St} {H : Hp} {ρ : Env} {h : Hh} {J : Jn} {Q : V → Hp → Prop} {α β : Type} {Rl : RelA α β} {g : D → Hh → R α} {Q' : β → Hp → Prop}, RE X.K J H ρ σ → RH X.K J h H →
      Post X.K J H Rl (((pa.v ρ h).bind fun x h1 => (pb.v ρ h1).bind fun y h2 => R.opt ((f h2 x y).map D.bl) h2).bind g) Q' →
      (∀ (k : Bool) (H' : Hp) (J' : Jn) (h' : Hh), RE X.K J' H' ρ σ → RH X.K J' h' H' → Post X.K J' H' Rl (g (.bl k) h') Q' → Q (.bl k) H') →
      tOp (rCmp X.K f) (tG X.K (rD X.K) pa.v) (tG X.K (rD X.K) pb.v) σ H Q := by
    intro σ H ρ h J Q α β Rl g Q' re rh q fin
    simp only [R.bind_assoc] at q
    refine (Post.step (R1 := rD X.K) (f := pa.v) re rh q).mono fun x H1 ⟨J1, h1, dx, e1, re1, rh1, rx, q1⟩ => ?_
    refine (Post.step (R1 := rD X.K) (f := pb.v) re1 rh1 q1).mono fun y H2 ⟨J2, h2, dy, e2, re2, rh2, ry, q2⟩ => ?_
    cases hd : f h2 dx dy with
    | none => rw [hd] at q2; exact False.elim q2
    | some k => rw [hd] at q2; exact ⟨J2, h2, dx, dy, k, rh2, rx.ext e2, ry, hd, fin k H2 J2 h2 re2 rh2 q2⟩
  refine ⟨(pe_cmpR ho ha.v hb.v (plain_mark hp _)).imp fun σ H Q ⟨ρ, h, J, re, rh, q⟩ => ?_, (pt_cmpR ho ha.v hb.v (plain_mark hp _)).imp fun σ H Q ⟨ρ, h, J, re, rh, q⟩ => ?_⟩
  · have as2 : ∀ r : R D, r = r.bind fun x h => .ok x h := fun r => by cases r <;> rfl
    dsimp only [P.plain] at q
    rw [as2 ((pa.v ρ h).bind _)] at q
    exact core re rh q fun k H' J' h' _ rh' q' => q' J' H' _ Ext.refl rh' (.bl k)
  · exact core re rh q fun k H' J' h' _ rh' q' => ⟨k, rfl, q' J' H' k Ext.refl rh' rfl⟩
end
end PV
end

section
set_option maxRecDepth 100000
namespace PV
open L2 PySem PySem.Spec PyProof.Rows
section
variable {X : Cx} {e x a b : Expr} {p pa pb pc : P} {pos : Pos}

/-! ### chains -/
theorem se_chain {op op' : CmpOp} {f f' : Hh → D → D → Option Bool} {c : Expr} (ho : OpR X (compareOp op) (rCmp X.K f)) (ho' : OpR X (compareOp op') (rCmp X.K f')) (hp : plainX c = true) (ha : SE X a pa) (hb : SE X b pb) (hc : SE X c pc) :
    SE X (.Compare a [op, op'] [b, c] pos) (.plain fun ρ h => (pa.v ρ h).bind fun x h1 => (pb.v ρ h1).bind fun y h2 => (R.opt (f h2 x y) h2).bind fun t h3 =>
      if t then (pc.v ρ h3).bind fun z h4 => R.opt ((f' h4 y z).map D.bl) h4 else .ok (.bl false) h3) := by
  have core : ∀ {σ : L2.St} {H : Hp} {ρ : Env} {h : Hh} {J : Jn} {Q : V → Hp → Prop} {α β : Type} {Rl : RelA α β} {g : D → Hh → R α} {Q' : β → Hp → Prop}, RE X.K J H ρ σ → RH X.K J h H →
      Post X.K J H Rl (((pa.v ρ h).bind fun x h1 => (pb.v ρ h1).bind fun y h2 => (R.opt (f h2 x y) h2).bind fun t h3 =>
      if t then (pc.v ρ h3).bind fun z h4 => R.opt ((f' h4 y z).map D.bl) h4 else .ok (.bl false) h3).bind g) Q' →
      (∀ (k : Bool) (H' : Hp) (J' : Jn) (h' : Hh), RE X.K J' H' ρ σ → RH X.K J' h' H' → Post X.K J' H' Rl (g (.bl k) h') Q' → Q (.bl k) H') →
      tChain (rCmp X.K f) (rCmp X.K f') (tG X.K (rD X.K) pa.v) (tG X.K (rD X.K) pb.v) (tG X.K (rD X.K) pc.v) σ H Q := by
    intro σ H ρ h J Q α β Rl g Q' re rh q fin
    simp only [R.bind_assoc] at q
    refine (Post.step (R1 := rD X.K) (f := pa.v) re rh q).mono fun x H1 ⟨J1, h1, dx, e1, re1, rh1, rx, q1⟩ => ?_
    refine (Post.step (R1 := rD X.K) (f := pb.v) re1 rh1 q1).mono fun y H2 ⟨J2, h2, dy, e2, re2, rh2, ry, q2⟩ => ?_
    cases hd : f h2 dx dy with
    | none => rw [hd] at q2; exact False.elim q2
    | some k =>
      rw [hd] at q2
      refine ⟨J2, h2, dx, dy, k, rh2, rx.ext e2, ry, hd, k, rfl, ?_⟩
      cases k with
      | false => exact fin false H2 J2 h2 re2 rh2 q2
      | true =>
        simp only [R.opt_some, R.bind_ok, if_true, R.bind_assoc] at q2 ⊢
        refine (Post.step (R1 := rD X.K) (f := pc.v) re2 rh2 q2).mono fun z H3 ⟨J3, h3, dz, e3, re3, rh3, rz, q3⟩ => ?_
        cases hd' : f' h3 dy dz with
        | none => rw [hd'] at q3; exact False.elim q3
        | some k' => rw [hd'] at q3; exact ⟨J3, h3, dy, dz, k', rh3, ry.ext e3, rz, hd', fin k' H3 J3 h3 re3 rh3 q3⟩
  have hm : lastMarks [op, op'] [b, c] = false := plain_mark hp _
  refine ⟨(pe_chain ho ho' ha.v hb.v hc.v hm).imp fun σ H Q ⟨ρ, h, J, re, rh, q⟩ => ?_, (pt_chain ho ho' ha.v hb.v hc.v hm).imp fun σ H Q ⟨ρ, h, J, re, rh, q⟩ => ?_⟩
  · have as2 : ∀ r : R D, r = r.bind fun x h => .ok x h := fun r => by cases r <;> rfl
    dsimp only [P.plain] at q
    rw [as2 ((pa.v ρ h).bind _)] at q
    exact core re rh q fun k H' J' h' _ rh' q' => q' J' H' _ Ext.refl rh' (.bl k)
  · exact core re rh q fun k H' J' h' _ rh' q' => ⟨k, rfl, q' J' H' k Ext.refl rh' rfl⟩

/-! ### and, or, not -/
theorem vBl_inv {α β : Type} {Rl : RelA α β} {J : Jn} {H : Hp} {d : D} {v : V} {h : Hh} {g : Bool → Hh → R α} {Q : β → Hp → Prop} (r : RD X.K J H d v) (q : Post X.K J H Rl ((vBl d h).bind g) Q) : ∃ t, v = .bl t ∧ Post X.K J H Rl (g t h) Q := by
  cases d with
  | bl t => exact ⟨t, r.bl_inv, q⟩
  | _ => exact False.elim q
theorem isEmpty_cons_false {es : List Expr} (h : es.isEmpty = false) : ∃ b r, es = b :: r := by
  cases es with
  | nil => cases h
  | cons b r => exact ⟨b, r, rfl⟩
theorem ses_nil : SEs X [] ⟨true, fun _ h => .ok [] h, fun _ _ => .bad, fun _ _ => .bad, fun _ _ => .bad, fun _ _ => .bad⟩ where
  l := pa_nil.imp fun σ H Q ⟨ρ, h, J, re, rh, q⟩ => q J H [] Ext.refl rh .nil
  nil := rfl
  kw := fun kws e => by
    cases kws with
    | nil => exact ⟨fun pos pins s σ H Q I ⟨ρ, h, J, re, rh, q⟩ => pk_nil.run pos pins s σ H Q I (q J H [] Ext.refl rh .nil)⟩
    | cons _ _ => cases e
  an := fun _ => ⟨fun _ _ _ _ _ _ ⟨_, _, _, _, _, q⟩ => False.elim q⟩
  on := fun _ => ⟨fun _ _ _ _ _ _ ⟨_, _, _, _, _, q⟩ => False.elim q⟩
  at_ := fun _ => ⟨fun _ _ _ _ _ _ _ ⟨_, _, _, _, _, q⟩ => False.elim q⟩
  ot := fun _ => ⟨fun _ _ _ _ _ _ _ ⟨_, _, _, _, _, q⟩ => False.elim q⟩
/-- and, of one and more -/
theorem pe_andV {es : List Expr} {pl : PL} (ha : SE X a pa) (hl : SEs X es pl) (hn : es.isEmpty = false) :
    PE X (.BoolOp .And (a :: es) pos) (tG X.K (rD X.K) fun ρ h => (pa.v ρ h).bind fun x h1 => (vBl x h1).bind fun t h2 => if t then pl.an ρ h2 else .ok (.bl false) h2) := by
  obtain ⟨b, r, rfl⟩ := isEmpty_cons_false hn
  refine (pe_and ha.v (hl.an pos)).imp fun σ H Q ⟨ρ, h, J, re, rh, q⟩ => ?_
  refine (Post.step (R1 := rD X.K) (f := pa.v) re rh q).mono fun x H1 ⟨J1, h1, dx, e1, re1, rh1, rx, q1⟩ => ?_
  obtain ⟨t, rfl, q2⟩ := vBl_inv rx q1
  refine ⟨t, rfl, ?_⟩
  cases t with
  | true => exact ⟨ρ, h1, J1, re1, rh1, q2⟩
  | false => exact q2 J1 H1 _ Ext.refl rh1 (.bl false)
theorem pe_orV {es : List Expr} {pl : PL} (ha : SE X a pa) (hl : SEs X es pl) (hn : es.isEmpty = false) :
    PE X (.BoolOp .Or (a :: es) pos) (tG X.K (rD X.K) fun ρ h => (pa.v ρ h).bind fun x h1 => (vBl x h1).bind fun t h2 => if t then .ok (.bl true) h2 else pl.on ρ h2) := by
  obtain ⟨b, r, rfl⟩ := isEmpty_cons_false hn
  refine (pe_or ha.v (hl.on pos)).imp fun σ H Q ⟨ρ, h, J, re, rh, q⟩ => ?_
  refine (Post.step (R1 := rD X.K) (f := pa.v) re rh q).mono fun x H1 ⟨J1, h1, dx, e1, re1, rh1, rx, q1⟩ => ?_
  obtain ⟨t, rfl, q2⟩ := vBl_inv rx q1
  refine ⟨t, rfl, ?_⟩
  cases t with
  | false => exact ⟨ρ, h1, J1, re1, rh1, q2⟩
  | true => exact q2 J1 H1 _ Ext.refl rh1 (.bl true)
theorem pw_andV {es : List Expr} {pl : PL} (ha : SE X a pa) (hl : SEs X es pl) (hn : es.isEmpty = false) :
    PW X (.BoolOp .And (a :: es) pos) (tG X.K rB fun ρ h => (pa.t ρ h).bind fun t h1 => if t then pl.at_ ρ h1 else .ok false h1) := by
  obtain ⟨b, r, rfl⟩ := isEmpty_cons_false hn
  refine (pw_and ha.t (hl.at_ pos)).imp fun σ H Q ⟨ρ, h, J, re, rh, q⟩ => ?_
  refine (Post.step (R1 := rB) (f := pa.t) re rh q).mono fun x H1 ⟨J1, h1, t, e1, re1, rh1, rx, q1⟩ => ?_
  have rx : t = x := rx
  subst rx
  cases t with
  | true => exact ⟨ρ, h1, J1, re1, rh1, q1⟩
  | false => exact q1 J1 H1 _ Ext.refl rh1 rfl
theorem pw_orV {es : List Expr} {pl : PL} (ha : SE X a pa) (hl : SEs X es pl) (hn : es.isEmpty = false) :
    PW X (.BoolOp .Or (a :: es) pos) (tG X.K rB fun ρ h => (pa.t ρ h).bind fun t h1 => if t then .ok true h1 else pl.ot ρ h1) := by
  obtain ⟨b, r, rfl⟩ := isEmpty_cons_false hn
  refine (pw_or ha.t (hl.ot pos)).imp fun σ H Q ⟨ρ, h, J, re, rh, q⟩ => ?_
  refine (Post.step (R1 := rB) (f := pa.t) re rh q).mono fun x H1 ⟨J1, h1, t, e1, re1, rh1, rx, q1⟩ => ?_
  have rx : t = x := rx
  subst rx
  cases t with
  | false => exact ⟨ρ, h1, J1, re1, rh1, q1⟩
  | true => exact q1 J1 H1 _ Ext.refl rh1 rfl
theorem ses_cons {es : List Expr} {pl : PL} (hp : plainX a = true) (ha : SE X a pa) (hl : SEs X es pl) : SEs X (a :: es) ⟨false,
      fun ρ h => (pa.v ρ h).bind fun x h1 => (pl.l ρ h1).bind fun xs h2 => .ok (x :: xs) h2,
      fun ρ h => if pl.nil then pa.v ρ h else (pa.v ρ h).bind fun x h1 => (vBl x h1).bind fun t h2 => if t then pl.an ρ h2 else .ok (.bl false) h2,
      fun ρ h => if pl.nil then pa.v ρ h else (pa.v ρ h).bind fun x h1 => (vBl x h1).bind fun t h2 => if t then .ok (.bl true) h2 else pl.on ρ h2,
      fun ρ h => if pl.nil then pa.t ρ h else (pa.t ρ h).bind fun t h1 => if t then pl.at_ ρ h1 else .ok false h1,
      fun ρ h => if pl.nil then pa.t ρ h else (pa.t ρ h).bind fun t h1 => if t then .ok true h1 else pl.ot ρ h1⟩ := by
  refine ⟨(pa_cons ha.v hl.l (plain_star hp _ _)).imp fun σ H Q ⟨ρ, h, J, re, rh, q⟩ => ?_, rfl, fun kws ek => ?_, fun pos => ?_, fun pos => ?_, fun pos => ?_, fun pos => ?_⟩
  · refine (Post.step (R1 := rD X.K) (f := pa.v) re rh q).mono fun x H1 ⟨J1, h1, dx, e1, re1, rh1, rx, q1⟩ => ?_
    refine (Post.step (R1 := rDs X.K) (f := pl.l) re1 rh1 q1).mono fun xs H2 ⟨J2, h2, ds, e2, re2, rh2, rs, q2⟩ => ?_
    exact q2 J2 H2 _ Ext.refl rh2 (.cons (rx.ext e2) rs)
  · cases kws with
    | nil => cases ek
    | cons k kws =>
      obtain ⟨nm, e, kp⟩ := k
      simp only [List.map_cons, List.cons.injEq] at ek
      obtain ⟨rfl, ek⟩ := ek
      refine ⟨fun pos pins s σ H Q I ⟨ρ, h, J, re, rh, q⟩ => (pk_cons ha.v (hl.kw kws ek)).run pos pins s σ H Q I ?_⟩
      refine (Post.step (R1 := rD X.K) (f := pa.v) re rh q).mono fun x H1 ⟨J1, h1, dx, e1, re1, rh1, rx, q1⟩ => ?_
      refine (Post.step (R1 := rDs X.K) (f := pl.l) re1 rh1 q1).mono fun xs H2 ⟨J2, h2, ds, e2, re2, rh2, rs, q2⟩ => ?_
      exact q2 J2 H2 _ Ext.refl rh2 (.cons (rx.ext e2) rs)
  all_goals
    cases hn : es.isEmpty with
    | true =>
      have he : es = [] := by cases es with | nil => rfl | cons _ _ => cases hn
      subst he
      simp only [hl.nil, hn, if_true]
      first | exact pe_one ha.v | exact pw_and1 ha.t | exact pw_or1 ha.t
    | false =>
      simp only [hl.nil, hn, Bool.false_eq_true, if_false]
      first | exact pe_andV ha hl hn | exact pe_orV ha hl hn | exact pw_andV ha hl hn | exact pw_orV ha hl hn
theorem se_and {es : List Expr} {pl : PL} (ha : SE X a pa) (hl : SEs X es pl) (hn : es.isEmpty = false) : SE X (.BoolOp .And (a :: es) pos) ⟨fun ρ h => (pa.v ρ h).bind fun x h1 => (vBl x h1).bind fun t h2 => if t then pl.an ρ h2 else .ok (.bl false) h2,
    fun ρ h => (pa.t ρ h).bind fun t h1 => if t then pl.at_ ρ h1 else .ok false h1⟩ := ⟨pe_andV ha hl hn, (pw_andV ha hl hn).pt⟩
theorem se_or {es : List Expr} {pl : PL} (ha : SE X a pa) (hl : SEs X es pl) (hn : es.isEmpty = false) : SE X (.BoolOp .Or (a :: es) pos) ⟨fun ρ h => (pa.v ρ h).bind fun x h1 => (vBl x h1).bind fun t h2 => if t then .ok (.bl true) h2 else pl.on ρ h2,
    fun ρ h => (pa.t ρ h).bind fun t h1 => if t then .ok true h1 else pl.ot ρ h1⟩ := ⟨pe_orV ha hl hn, (pw_orV ha hl hn).pt⟩
theorem se_not (ha : SE X a pa) : SE X (.UnaryOp .Not a pos) ⟨fun ρ h => (pa.v ρ h).bind fun x h1 => (vBl x h1).bind fun t h2 => .ok (.bl (!t)) h2, fun ρ h => (pa.t ρ h).bind fun t h1 => .ok (!t) h1⟩ := by
  refine ⟨(pe_not ha.v).imp fun σ H Q ⟨ρ, h, J, re, rh, q⟩ => ?_, (pt_not ha.t).imp fun σ H Q ⟨ρ, h, J, re, rh, q⟩ => ?_⟩
  · refine (Post.step (R1 := rD X.K) (f := pa.v) re rh q).mono fun x H1 ⟨J1, h1, dx, e1, re1, rh1, rx, q1⟩ => ?_
    obtain ⟨t, rfl, q2⟩ := vBl_inv rx q1
    exact ⟨t, rfl, q2 J1 H1 _ Ext.refl rh1 (.bl _)⟩
  · refine (Post.step (R1 := rB) (f := pa.t) re rh q).mono fun x H1 ⟨J1, h1, t, e1, re1, rh1, rx, q1⟩ => ?_
    cases rx
    exact q1 J1 H1 _ Ext.refl rh1 rfl
theorem se_neg (ha : SE X a pa) : SE X (.UnaryOp .USub a pos) (.plain fun ρ h => (pa.v ρ h).bind fun x h1 => R.opt (x.isInt.map fun i => .int (-i)) h1) := by
  refine SE.plain ((pe_un un_neg ha.v).imp fun σ H Q ⟨ρ, h, J, re, rh, q⟩ => ?_) (fun _ => rfl)
  refine (Post.step (R1 := rD X.K) (f := pa.v) re rh q).mono fun x H1 ⟨J1, h1, dx, e1, re1, rh1, rx, q1⟩ => ?_
  cases dx with
  | int i => exact ⟨i, rx.int_inv, q1 J1 H1 _ Ext.refl rh1 (.int _)⟩
  | _ => exact False.elim q1
theorem isTrue_if {c : Expr} {M : Model} {A : Around} {E : Value → Shared → Prop} {s : Shared} {env : PySem.Env} {whole : Sem Value} {Q : Bool → Shared → Prop}
    (h : wpAny M A (isTrue c env (eval c env)) (fun t s' => if t = true then wpAny M A (isTrue a env (eval a env)) Q E s' else wpAny M A (isTrue b env (eval b env)) Q E s') E s) : wpAny M A (isTrue (.IfExp c a b pos) env whole) Q E s := by
  show wpAny M A (do if ← isTrue c env (eval c env) then isTrue a env (eval a env) else isTrue b env (eval b env)) Q E s
  refine wpAny_bind (wpAny_mono h (fun t s' q => ?_) fun _ _ z => z)
  cases t with
  | true => exact q
  | false => exact q
theorem se_ite {c : Expr} (hc : SE X c pc) (ha : SE X a pa) (hb : SE X b pb) : SE X (.IfExp c a b pos) ⟨fun ρ h => (pc.t ρ h).bind fun t h1 => if t then pa.v ρ h1 else pb.v ρ h1, fun ρ h => (pc.t ρ h).bind fun t h1 => if t then pa.t ρ h1 else pb.t ρ h1⟩ := by
  refine ⟨(pe_ifExp hc.t ha.v hb.v).imp fun σ H Q ⟨ρ, h, J, re, rh, q⟩ => ?_, ⟨fun pins s σ H Q I ⟨ρ, h, J, re, rh, q⟩ => isTrue_if ?_⟩⟩
  · refine (Post.step (R1 := rB) (f := pc.t) re rh q).mono fun x H1 ⟨J1, h1, t, e1, re1, rh1, rx, q1⟩ => ?_
    have rx : t = x := rx
    subst rx
    cases t with
    | true => exact ⟨ρ, h1, J1, re1, rh1, q1⟩
    | false => exact ⟨ρ, h1, J1, re1, rh1, q1⟩
  · refine thn (hc.t.run pins s σ H _ I (Post.step (R1 := rB) (f := pc.t) re rh q)) fun t s' ⟨H1, I1, J1, h1, t', e1, re1, rh1, rx, q1⟩ => ?_
    have rx : t' = t := rx
    subst rx
    cases t' with
    | true => exact ha.t.run pins s' σ H1 Q I1 ⟨ρ, h1, J1, re1, rh1, q1⟩
    | false => exact hb.t.run pins s' σ H1 Q I1 ⟨ρ, h1, J1, re1, rh1, q1⟩

/-! ### subscripts, slices, displays -/
theorem se_idx (hu : X.A.units + 200 < cLine) (hp : plainX b = true) (ha : SE X a pa) (hb : SE X b pb) : SE X (.Subscript a b pos) (.plain fun ρ h => (pa.v ρ h).bind fun x h1 => (pb.v ρ h1).bind fun y h2 => R.opt (opIdx h2 x y) h2) := by
  refine SE.plain ((pe_ix (ix_all (by omega)) ha.v hb.v (plain_ix hp)).imp fun σ H Q ⟨ρ, h, J, re, rh, q⟩ => ?_) (fun _ => rfl)
  refine (Post.step (R1 := rD X.K) (f := pa.v) re rh q).mono fun x H1 ⟨J1, h1, dx, e1, re1, rh1, rx, q1⟩ => ?_
  refine (Post.step (R1 := rD X.K) (f := pb.v) re1 rh1 q1).mono fun y H2 ⟨J2, h2, dy, e2, re2, rh2, ry, q2⟩ => ?_
  obtain ⟨d, hd, q3⟩ := Post.optX q2
  exact ⟨J2, h2, dx, dy, d, rh2, rx.ext e2, ry, hd, q3⟩
abbrev rO : RelA (Option Int) (Option Int) := fun _ _ a b => a = b
theorem so_none {pl : P} : PO X none (tG X.K rO (vPart true pl)) :=
  ⟨fun pins s σ H Q I ⟨ρ, h, J, re, rh, q⟩ => po_none.run pins s σ H Q I (q J H none Ext.refl rh rfl)⟩
theorem so_some (ha : SE X a pa) : PO X (some a) (tG X.K rO (vPart false pa)) := by
  refine ⟨fun pins s σ H Q I ⟨ρ, h, J, re, rh, q⟩ => (po_some ha.v).run pins s σ H Q I ?_⟩
  have q' : Post X.K J H rO ((pa.v ρ h).bind fun d h1 => R.opt (d.isInt.map some) h1) Q := q
  refine (Post.step (R1 := rD X.K) (f := pa.v) re rh q').mono fun x H1 ⟨J1, h1, d, e1, re1, rh1, rx, q1⟩ => ?_
  cases d with
  | int i => exact ⟨i, rx.int_inv, q1 J1 H1 _ Ext.refl rh1 rfl⟩
  | _ => exact False.elim q1
theorem se_slc {lo hi : Option Expr} {pl ph : P} {ml mh : Bool} {sp : Pos} (ha : SE X a pa) (hl : PO X lo (tG X.K rO (vPart ml pl))) (hh : PO X hi (tG X.K rO (vPart mh ph))) :
    SE X (.Subscript a (.Slice lo hi none sp) pos) (.plain fun ρ h => (pa.v ρ h).bind fun x h1 => (vPart ml pl ρ h1).bind fun l h2 => (vPart mh ph ρ h2).bind fun u h3 => R.opt (opSlc h3 x l u) h3) := by
  refine SE.plain ((pe_slice sl_all ha.v hl hh).imp fun σ H Q ⟨ρ, h, J, re, rh, q⟩ => ?_) (fun _ => rfl)
  refine (Post.step (R1 := rD X.K) (f := pa.v) re rh q).mono fun x H1 ⟨J1, h1, dx, e1, re1, rh1, rx, q1⟩ => ?_
  refine (Post.step (R1 := rO) (f := vPart ml pl) re1 rh1 q1).mono fun y H2 ⟨J2, h2, l, e2, re2, rh2, ry, q2⟩ => ?_
  refine (Post.step (R1 := rO) (f := vPart mh ph) re2 rh2 q2).mono fun z H3 ⟨J3, h3, u, e3, re3, rh3, rz, q3⟩ => ?_
  have ry : l = y := ry
  have rz : u = z := rz
  subst ry rz
  obtain ⟨d, hd, q4⟩ := Post.optX q3
  exact ⟨J3, h3, dx, d, rh3, (rx.ext e2).ext e3, hd, q4⟩
theorem se_tup {es : List Expr} {pl : PL} {k : Nat} (hl : SEs X es pl) : SE X (.Tuple es k pos) (.plain fun ρ h => (pl.l ρ h).bind fun xs h1 => if sizeOk xs.length then .ok (.tup xs) h1 else .bad) := by
  refine SE.plain ((pe_tup hl.l).imp fun σ H Q ⟨ρ, h, J, re, rh, q⟩ => ?_) (fun _ => rfl)
  refine (Post.step (R1 := rDs X.K) (f := pl.l) re rh q).mono fun xs H1 ⟨J1, h1, ds, e1, re1, rh1, rs, q1⟩ => ?_
  split at q1
  · rename_i hz
    have hz' : xs.length ≤ sizeLine := by rw [← rs.length]; exact size_of hz
    exact ⟨hz', fun p np => q1 _ _ _ (Ext.laid np) (rh1.laid np) (RD.newTup rh1 np rs hz')⟩
  · exact False.elim q1

/-! ### new lists -/
/-- a reading that ends in a new list -/
def tF (K : PySem.W.Frag) (v : Env → Hh → R D) : TE := fun σ H Q => ∃ ρ h J, RE K J H ρ σ ∧ RH K J h H ∧ match v ρ h with
  | .ok (.lst ds) h' => ∀ J' H' a vs, Ext J H ⟨J'.l, J.z⟩ H' → J'.z = a :: J.z → RH K J' h' H' → H' a = some (.lst vs) → vs.length ≤ sizeLine → RDs K J' H' ds vs → H a = none → Q (.ref a) H'
  | _ => False
theorem tF_of {K : PySem.W.Frag} {v : Env → Hh → R D} {σ : L2.St} {H : Hp} {Q : VK} (hl : ∀ ρ h d h', v ρ h = .ok d h' → ∃ ds, d = .lst ds) (t : tG K (rD K) v σ H Q) : tF K v σ H Q := by
  obtain ⟨ρ, h, J, re, rh, q⟩ := t
  refine ⟨ρ, h, J, re, rh, ?_⟩
  cases ev : v ρ h with
  | ok d h' =>
    rw [ev] at q
    obtain ⟨ds, rfl⟩ := hl ρ h d h' ev
    intro J' H' a vs e ez rh' ha hz rs na
    obtain ⟨l', z'⟩ := J'
    simp only at ez e
    subst ez
    exact q _ H' _ e (rh'.show_ (J := ⟨l', J.z⟩)) (.lst (rh'.apart a List.mem_cons_self) (fun z => rh.notz na z) ha hz (rs.sub (Sub.show_ (J := ⟨l', J.z⟩))))
  | bad => rw [ev] at q; exact q
  | err _ _ => rw [ev] at q; exact q
theorem tF_val {v : Env → Hh → R D} (hv : PE X e (tF X.K v)) (hl : ∀ ρ h d h', v ρ h = .ok d h' → ∃ ds, d = .lst ds) : PE X e (tG X.K (rD X.K) v) := hv.imp fun σ H Q t => tF_of hl t
theorem se_lstF {es : List Expr} {pl : PL} (hl : SEs X es pl) : PE X (.List es pos) (tF X.K fun ρ h => (pl.l ρ h).bind fun xs h1 => if sizeOk xs.length then .ok (.lst xs) h1 else .bad) := by
  refine (pe_lst hl.l).imp fun σ H Q ⟨ρ, h, J, re, rh, q⟩ => ?_
  refine ⟨ρ, h, J, re, rh, ?_⟩
  dsimp only at q
  cases ev : pl.l ρ h with
  | ok ds h1 =>
    rw [ev, R.bind_ok] at q
    split at q
    · rename_i ds' h1' heq
      split at heq
      · rename_i hz; cases heq
        intro J1 H1 vs e1 rh1 rs
        have hz' : vs.length ≤ sizeLine := by rw [← rs.length]; exact size_of hz
        refine ⟨hz', fun p np => ?_⟩
        refine q (J1.hide p) _ p vs ⟨rfl, ?_, ?_⟩ ?_ (rh1.hide np) upd_same hz' ((rs.sub (Sub.hide np)).ext (Ext.laid np)) ?_
        · exact e1.pre
        · intro a o n q; rw [upd_ne (ne_of_none (e1.keep a o n q) np)]; exact e1.keep a o n q
        · show p :: J1.z = p :: J.z; rw [e1.z]
        · cases hp : H p with
          | none => rfl
          | some u =>
            exfalso
            by_cases n : p ∈ J.l
            · obtain ⟨m, hm, _⟩ := e1.pre
              obtain ⟨u', h2⟩ := rh1.inl (a := p) (by rw [hm]; exact List.mem_append_left _ n)
              rw [np] at h2; cases h2
            · have := e1.keep p u n hp; rw [np] at this; cases this
      · cases heq
    · exact False.elim q
  | bad => rw [ev] at q; exact False.elim q
  | err _ _ => rw [ev] at q; exact False.elim q
theorem se_lst {es : List Expr} {pl : PL} (hl : SEs X es pl) : SE X (.List es pos) (.plain fun ρ h => (pl.l ρ h).bind fun xs h1 => if sizeOk xs.length then .ok (.lst xs) h1 else .bad) := by
  refine SE.plain (tF_val (se_lstF hl) fun ρ h d h' e => ?_) (fun _ => rfl)
  cases ev : pl.l ρ h with
  | ok ds h1 =>
    rw [ev, R.bind_ok] at e
    split at e
    · cases e; exact ⟨_, rfl⟩
    · cases e
  | bad => rw [ev] at e; cases e
  | err _ _ => rw [ev] at e; cases e
/-- .. that becomes an object -/
theorem tF_new {K : PySem.W.Frag} {v : Env → Hh → R D} {σ : L2.St} {H : Hp} {Q : VK} (t : tG K (rD K) (fun ρ h => (v ρ h).bind newObj) σ H Q) : tF K v σ H Q := by
  obtain ⟨ρ, h, J, re, rh, q⟩ := t
  refine ⟨ρ, h, J, re, rh, ?_⟩
  dsimp only at q
  cases ev : v ρ h with
  | ok d h' =>
    rw [ev, R.bind_ok] at q
    cases d with
    | lst ds =>
      intro J' H' a vs e ez rh' ha hz rs na
      obtain ⟨l', z'⟩ := J'
      simp only at ez e
      subst ez
      have rh2 : RH K (Jn.own ⟨l', J.z⟩ a) (h' ++ [.lst ds]) H' := rh'.own (J := ⟨l', J.z⟩) (fun z => rh.notz na z) ha (.lst hz rs)
      refine q _ H' _ (Ext.own (J' := ⟨l', J.z⟩) na e) rh2 (.ref ?_)
      show (l' ++ [a])[h'.length]? = some a
      have hl : l'.length = h'.length := rh'.len
      rw [← hl, List.getElem?_append_right (Nat.le_refl _)]; simp
    | _ => exact False.elim q
  | bad => rw [ev] at q; exact False.elim q
  | err _ _ => rw [ev] at q; exact False.elim q
theorem se_new {v : Env → Hh → R D} (hv : PE X e (tF X.K v)) (he : ∀ whole, isTrue e X.env whole = (do let v ← whole; standAt e.pos; holding [v] (truthy v))) : SE X e (.plain fun ρ h => (v ρ h).bind newObj) :=
  SE.plain (hv.imp fun σ H Q t => tF_new t) he
end
end PV
end

section
set_option maxRecDepth 100000
namespace PV
open L2 PySem PySem.Spec PyProof.Rows
mutual
theorem same_eq : ∀ x y : D, D.same x y = true → x = y
  | .non, y, h => by cases y <;> simp [D.same] at h; rfl
  | .bl a, y, h => by cases y <;> simp [D.same] at h; rw [h]
  | .int a, y, h => by cases y <;> simp [D.same] at h; rw [h]
  | .str a, y, h => by cases y <;> simp [D.same] at h; rw [h]
  | .ref a, y, h => by cases y <;> simp [D.same] at h; rw [h]
  | .tup a, y, h => by
    cases y with
    | tup b => simp only [D.same] at h; rw [sames_eq a b h]
    | _ => simp [D.same] at h
  | .lst a, y, h => by
    cases y with
    | lst b => simp only [D.same] at h; rw [sames_eq a b h]
    | _ => simp [D.same] at h
  | .fz a, y, h => by
    cases y with
    | fz b => simp only [D.same] at h; rw [sames_eq a b h]
    | _ => simp [D.same] at h
theorem sames_eq : ∀ xs ys : List D, D.sames xs ys = true → xs = ys
  | [], [], _ => rfl
  | [], _ :: _, h => by simp [D.sames] at h
  | _ :: _, [], h => by simp [D.sames] at h
  | x :: xs, y :: ys, h => by
    simp only [D.sames, Bool.and_eq_true] at h
    rw [same_eq x y h.1, sames_eq xs ys h.2]
end
theorem Ext.sub {J J' : Jn} {H H' : Hp} (e : Ext J H J' H') : Sub J H J' H' := ⟨fun a o n m q => ⟨e.notin n q, by rw [e.z]; exact m, e.keep a o n q⟩, fun _ _ q => e.get q⟩
theorem Sub.trans {J J' J2 : Jn} {H H' H2 : Hp} (e : Sub J H J' H') (f : Sub J' H' J2 H2) : Sub J H J2 H2 :=
  ⟨fun a o n m q => let ⟨x, y, z⟩ := e.l a o n m q; f.l a o x y z, fun i a q => f.get i a (e.get i a q)⟩
theorem Sub.refl {J : Jn} {H : Hp} : Sub J H J H := ⟨fun a o n m q => ⟨n, m, q⟩, fun _ _ q => q⟩

/-! ### iterators -/
structure ItOk (K : PySem.W.Frag) (J : Jn) (H : Hp) (it : It) (src : Src) : Prop where
  go : ∀ {J2 : Jn} {h2 : Hh} {H2 : Hp} {i : Nat} {d : D}, Sub J H J2 H2 → RH K J2 h2 H2 → src.good h2 = true → src.items[i]? = some d → it.go i H2 ∧ ∀ x H3, it.yld i H2 x H3 → Ext J2 H2 J2 H3 ∧ RH K J2 h2 H3 ∧ RD K J2 H3 d x
  stop : ∀ {J2 : Jn} {h2 : Hh} {H2 : Hp}, Sub J H J2 H2 → RH K J2 h2 H2 → src.good h2 = true → it.stop src.items.length H2
def tI (K : PySem.W.Frag) (f : Env → Hh → R Src) : TI := fun σ H Rr => ∃ ρ h J, RE K J H ρ σ ∧ RH K J h H ∧ match f ρ h with
  | .ok src h' => ∀ J' H' it, Ext J H J' H' → RH K J' h' H' → ItOk K J' H' it src → Rr it H'
  | _ => False
section
variable {X : Cx} {e x a b tg : Expr} {p pa pb pc : P} {pos : Pos} {K : PySem.W.Frag} {J : Jn} {H : Hp} {h : Hh}
theorem itl_ok {a : Addr} {ds : List D} {vs : List V} (st : ∀ {J2 : Jn} {H2 : Hp}, Sub J H J2 H2 → SqL K H2 a vs) (r : RDs K J H ds vs) : ItOk K J H (Itl K a) ⟨ds, none⟩ := by
  refine ⟨fun {J2 h2 H2 i d} s rh _ hd => ?_, fun {J2 h2 H2} s rh _ => ⟨vs, st s, by rw [r.length]; exact Nat.le_refl _⟩⟩
  obtain ⟨v, hv, rv⟩ := r.get hd
  refine ⟨⟨vs, v, st s, hv⟩, fun x H3 ⟨e1, e2⟩ => ?_⟩
  subst e1
  have := e2 vs (st s)
  rw [hv] at this; cases this
  exact ⟨Ext.refl, rh, rv.sub s⟩
theorem itt_ok {a : Addr} {ds : List D} {vs : List V} (q : ∀ {J2 : Jn} {H2 : Hp}, Sub J H J2 H2 → SqT K H2 a vs) (r : RDs K J H ds vs) : ItOk K J H (Itt K a) ⟨ds, none⟩ := by
  refine ⟨fun {J2 h2 H2 i d} s rh _ hd => ?_, fun {J2 h2 H2} s rh _ => ⟨vs, q s, by rw [r.length]; exact Nat.le_refl _⟩⟩
  obtain ⟨v, hv, rv⟩ := r.get hd
  refine ⟨⟨vs, v, q s, hv⟩, fun x H3 ⟨e1, e2⟩ => ?_⟩
  subst e1
  have := e2 vs (q s)
  rw [hv] at this; cases this
  exact ⟨Ext.refl, rh, rv.sub s⟩
theorem itl_ref {i : Nat} {a : Addr} {ds : List D} (q : J.l[i]? = some a) : ItOk K J H (Itl K a) ⟨ds, some i⟩ := by
  have st : ∀ {J2 h2 H2}, Sub J H J2 H2 → RH K J2 h2 H2 → Src.good ⟨ds, some i⟩ h2 = true → ∃ vs, SqL K H2 a vs ∧ RDs K J2 H2 ds vs := fun {J2 h2 H2} s rh g => by
    obtain ⟨o, u, h1, h2', h3⟩ := rh.at (s.get i a q)
    simp only [Src.good, h1] at g
    cases h3 with
    | lst z r => have e := sames_eq _ _ g; subst e; exact ⟨_, .inl (.inl h2'), r⟩
    | dct z r => cases g
  refine ⟨fun {J2 h2 H2 j d} s rh g hd => ?_, fun {J2 h2 H2} s rh g => ?_⟩
  · obtain ⟨vs, hq, r⟩ := st s rh g
    obtain ⟨v, hv, rv⟩ := r.get hd
    refine ⟨⟨vs, v, hq, hv⟩, fun x H3 ⟨e1, e2⟩ => ?_⟩
    subst e1
    have := e2 vs hq
    rw [hv] at this; cases this
    exact ⟨Ext.refl, rh, rv⟩
  · obtain ⟨vs, hq, r⟩ := st s rh g
    exact ⟨vs, hq, by rw [r.length]; exact Nat.le_refl _⟩
theorem itr_ok {lo hi : Int} : ItOk K J H (Itr lo (hi - lo).toNat) ⟨rngD lo hi, none⟩ := by
  have hl : (rngD lo hi).length = (hi - lo).toNat := by simp [rngD]
  refine ⟨fun {J2 h2 H2 i d} s rh _ hd => ?_, fun {J2 h2 H2} s rh _ => by show _ ≤ _; rw [hl]; exact Nat.le_refl _⟩
  have hi' : i < (hi - lo).toNat := by rw [← hl]; exact (List.getElem?_eq_some_iff.mp hd).1
  refine ⟨hi', fun x H3 ⟨e1, e2⟩ => ?_⟩
  subst e1 e2
  refine ⟨Ext.refl, rh, ?_⟩
  simp only [rngD, List.getElem?_map, List.getElem?_range hi', Option.map_some, Option.some.injEq] at hd
  subst hd
  exact .int _
/-- the items that a value gives -/
theorem tup_st {ds : List D} {v : V} (r : RD K J H (.tup ds) v) : ∃ a vs, v = .ref a ∧ (∀ {J2 : Jn} {H2 : Hp}, Sub J H J2 H2 → SqT K H2 a vs) ∧ vs.length ≤ sizeLine ∧ RDs K J H ds vs := by
  cases r with
  | tup n m q z r => exact ⟨_, _, rfl, fun s => .inl (.inl (s.l _ _ n m q).2.2), z, r⟩
  | ktup k z r => exact ⟨_, _, rfl, fun _ => .inr k, z, r⟩
theorem lst_st {d : D} {ds : List D} {v : V} (hd : d = .lst ds ∨ d = .fz ds) (r : RD K J H d v) : ∃ a vs, v = .ref a ∧ (∀ {J2 : Jn} {H2 : Hp}, Sub J H J2 H2 → SqL K H2 a vs) ∧ vs.length ≤ sizeLine ∧ RDs K J H ds vs := by
  rcases hd with rfl | rfl
  · cases r with | lst n m q z r => exact ⟨_, _, rfl, fun s => .inl (.inl (s.l _ _ n m q).2.2), z, r⟩
  · cases r with
    | fz n m q z r => exact ⟨_, _, rfl, fun s => .inl (.inr ⟨_, (s.l _ _ n m q).2.2⟩), z, r⟩
    | kfz k z r => exact ⟨_, _, rfl, fun _ => .inr k, z, r⟩
theorem PI.or {t u : TI} (h : PI X tg e t) (h' : PI X tg e u) : PI X tg e (fun σ H R => t σ H R ∨ u σ H R) := ⟨fun p s σ H R I q => q.elim (h.run p s σ H R I) (h'.run p s σ H R I)⟩
/-- a value that is walked: a list or a tuple -/
theorem pi_any (ha : PE X a (tG X.K (rD X.K) pa.v)) : PI X tg a (tI X.K fun ρ h => (pa.v ρ h).bind fun x h1 => R.opt (x.src h1) h1) := by
  refine ⟨fun pins s σ H Rr I ⟨ρ, h, J, re, rh, q⟩ => ?_⟩
  dsimp only at q
  cases ev : pa.v ρ h with
  | ok d h1 =>
    rw [ev, R.bind_ok] at q
    cases es : d.src h1 with
    | none => rw [es] at q; exact False.elim q
    | some src =>
      rw [es] at q
      have q : ∀ J' H' it, Ext J H J' H' → RH X.K J' h1 H' → ItOk X.K J' H' it src → Rr it H' := q
      have lists : (∃ ds, (d = .lst ds ∨ d = .fz ds) ∧ src = ⟨ds, none⟩) → wpAny (model X.prog X.w) X.A (eval a X.env) (fun v s1 => wpAny (model X.prog X.w) X.A (pyIter v) (PIE X pins σ tg Rr) X.xe s1) X.xe s := by
        rintro ⟨ds, hd, rfl⟩
        refine (pi_list ha).run pins s σ H Rr I ⟨ρ, h, J, re, rh, ?_⟩
        rw [ev]
        intro J' H' v e1 rh' rv
        obtain ⟨p, vs, rfl, hq, z, rr⟩ := lst_st hd rv
        exact ⟨p, rfl, ⟨vs, hq Sub.refl⟩, q J' H' _ e1 rh' (itl_ok hq rr)⟩
      cases d with
      | lst ds => cases es; exact lists ⟨ds, .inl rfl, rfl⟩
      | fz ds => cases es; exact lists ⟨ds, .inr rfl, rfl⟩
      | tup ds =>
        cases es
        refine (pi_tup ha).run pins s σ H Rr I ⟨ρ, h, J, re, rh, ?_⟩
        rw [ev]
        intro J' H' v e1 rh' rv
        obtain ⟨p, vs, rfl, hq, z, rr⟩ := tup_st rv
        exact ⟨p, rfl, ⟨vs, hq Sub.refl⟩, q J' H' _ e1 rh' (itt_ok hq rr)⟩
      | ref i =>
        simp only [D.src] at es
        split at es
        · rename_i ys hys
          cases es
          refine (pi_list ha).run pins s σ H Rr I ⟨ρ, h, J, re, rh, ?_⟩
          rw [ev]
          intro J' H' v e1 rh' rv
          cases rv with
          | ref qi =>
            obtain ⟨o, u, h1', h2', h3⟩ := rh'.at qi
            rw [hys] at h1'; cases h1'
            cases h3 with
            | lst z rr => exact ⟨_, rfl, ⟨_, .inl (.inl h2')⟩, q J' H' _ e1 rh' (itl_ref qi)⟩
        · cases es
      | _ => cases es
  | bad => rw [ev] at q; exact False.elim q
  | err _ _ => rw [ev] at q; exact False.elim q
theorem rngOk_inv {i j : Int} (h : rngOk i j = true) : -(2 ^ 62) ≤ i ∧ i < 2 ^ 62 ∧ -(2 ^ 62) ≤ j ∧ j < 2 ^ 62 := by
  simp only [rngOk, Bool.and_eq_true, decide_eq_true_eq] at h
  exact ⟨h.1.1.1, h.1.1.2, h.1.2, h.2⟩
theorem R.step_inv {α β : Type} {r : R α} {f : α → Hh → R β} {P : R β → Prop} (q : P (r.bind f)) (hb : ¬ P .bad) (he : ∀ x h, ¬ P (.err x h)) : ∃ a h1, r = .ok a h1 ∧ P (f a h1) := by
  cases r with
  | ok a h1 => exact ⟨a, h1, rfl, q⟩
  | bad => exact absurd q hb
  | err x h => exact absurd q (he x h)
/-- what a walk's reading wants -/
def wI (K : PySem.W.Frag) (J : Jn) (H : Hp) (Rr : It → Hp → Prop) (r : R Src) : Prop := match r with
  | .ok src h' => ∀ J' H' it, Ext J H J' H' → RH K J' h' H' → ItOk K J' H' it src → Rr it H'
  | _ => False
theorem wI.step {α β : Type} {R1 : RelA α β} {f : Env → Hh → R α} {g : α → Hh → R Src} {Rr : It → Hp → Prop} {ρ : Env} {σ : L2.St} (re : RE K J H ρ σ) (rh : RH K J h H) (p : wI K J H Rr ((f ρ h).bind g)) :
    tG K R1 f σ H (fun b H1 => ∃ J1 h1 a, Ext J H J1 H1 ∧ RE K J1 H1 ρ σ ∧ RH K J1 h1 H1 ∧ R1 J1 H1 a b ∧ wI K J1 H1 Rr (g a h1)) := by
  refine ⟨ρ, h, J, re, rh, ?_⟩
  cases q : f ρ h with
  | ok a h1 =>
    rw [q, R.bind_ok] at p
    refine fun J1 H1 b e rh1 rl => ⟨J1, h1, a, e, re.ext e, rh1, rl, ?_⟩
    cases q2 : g a h1 with
    | ok src h2 => rw [q2] at p; exact fun J2 H2 it e2 rh2 ok => p J2 H2 it (e.trans rh rh1 e2) rh2 ok
    | bad => rw [q2] at p; exact p
    | err _ _ => rw [q2] at p; exact p
  | bad => rw [q] at p; exact p
  | err _ _ => rw [q] at p; exact p
theorem pi_rng {pp : Pos} (hg : Gl X "range") (hm : X.mg "range" = none) (hp : plainX a = true) (ha : SE X a pa) :
    PI X tg (.Call (.Name "range" pp) [a] [] pos) (tI X.K fun ρ h => (pa.v ρ h).bind fun x h1 => R.opt (x.isInt.bind fun n => if rngOk 0 n then some ⟨rngD 0 n, none⟩ else none) h1) := by
  have hs : starEach [a] X.env = [(false, eval a X.env)] := plain_star hp [] _
  refine (pi_range1 hg hm (pa_cons ha.v pa_nil hs) hs).imp fun σ H Rr ⟨ρ, h, J, re, rh, q⟩ => ?_
  refine (wI.step (R1 := rD X.K) (f := pa.v) re rh q).mono fun x H1 ⟨J1, h1, d, e1, re1, rh1, rx, q1⟩ => ?_
  cases d with
  | int n =>
    simp only [D.isInt, Option.bind_some] at q1
    split at q1
    · rename_i hz
      obtain ⟨_, _, z1, z2⟩ := rngOk_inv hz
      refine ⟨n, by rw [rx.int_inv], z1, z2, ?_⟩
      have := q1 J1 H1 (Itr 0 (n - 0).toNat) Ext.refl rh1 itr_ok
      rwa [Int.sub_zero] at this
    · exact False.elim q1
  | _ => exact False.elim q1
theorem pi_rng2 {pp : Pos} (hg : Gl X "range") (hm : X.mg "range" = none) (hp : plainX a = true) (hp2 : plainX b = true) (ha : SE X a pa) (hb : SE X b pb) :
    PI X tg (.Call (.Name "range" pp) [a, b] [] pos) (tI X.K fun ρ h => (pa.v ρ h).bind fun x h1 => (pb.v ρ h1).bind fun y h2 => R.opt (x.isInt.bind fun i => y.isInt.bind fun j => if rngOk i j then some ⟨rngD i j, none⟩ else none) h2) := by
  have hs2 : starEach [b] X.env = [(false, eval b X.env)] := plain_star hp2 [] _
  have hs : starEach [a, b] X.env = [(false, eval a X.env), (false, eval b X.env)] := by rw [plain_star hp, hs2]
  refine (pi_range2 hg hm (pa_cons ha.v (pa_cons hb.v pa_nil hs2) (plain_star hp _ _)) hs hs2).imp fun σ H Rr ⟨ρ, h, J, re, rh, q⟩ => ?_
  refine (wI.step (R1 := rD X.K) (f := pa.v) re rh q).mono fun x H1 ⟨J1, h1, d, e1, re1, rh1, rx, q1⟩ => ?_
  refine (wI.step (R1 := rD X.K) (f := pb.v) re1 rh1 q1).mono fun y H2 ⟨J2, h2, d2, e2, re2, rh2, ry, q2⟩ => ?_
  cases d with
  | int n =>
    cases d2 with
    | int m =>
      simp only [D.isInt, Option.bind_some] at q2
      split at q2
      · rename_i hz
        exact ⟨n, m, by rw [rx.int_inv, ry.int_inv], rngOk_inv hz, q2 J2 H2 _ Ext.refl rh2 itr_ok⟩
      · exact False.elim q2
    | _ => exact False.elim q2
  | _ => exact False.elim q2

theorem zipD_get {xs ys : List D} {i : Nat} {d : D} (e : (zipD xs ys)[i]? = some d) : ∃ x y, xs[i]? = some x ∧ ys[i]? = some y ∧ d = .tup [x, y] := by
  unfold zipD at e
  rw [List.getElem?_zipWith] at e
  split at e
  · rename_i x y hx hy; cases e; exact ⟨x, y, hx, hy, rfl⟩
  · cases e
theorem zipD_len (xs ys : List D) : xs.length ≤ (zipD xs ys).length ∨ ys.length ≤ (zipD xs ys).length := by
  unfold zipD; rw [List.length_zipWith]; omega
theorem two_ok {x y : V} : [x, y].length ≤ sizeLine := by show 2 ≤ sizeLine; decide
theorem itzT_ok {a b : Addr} {xs ys : List D} {vs ws : List V} (q : ∀ {J2 : Jn} {H2 : Hp}, Sub J H J2 H2 → SqT K H2 a vs) (r : RDs K J H xs vs) (q' : ∀ {J2 : Jn} {H2 : Hp}, Sub J H J2 H2 → SqT K H2 b ws) (r' : RDs K J H ys ws) :
    ItOk K J H (RZ.ItzT K a b) ⟨zipD xs ys, none⟩ := by
  refine ⟨fun {J2 h2 H2 i d} s rh _ hd => ?_, fun {J2 h2 H2} s rh _ => ⟨vs, ws, q s, q' s, by rw [← r.length, ← r'.length]; exact zipD_len xs ys⟩⟩
  obtain ⟨dx, dy, hx, hy, rfl⟩ := zipD_get hd
  obtain ⟨v, hv, rv⟩ := r.get hx
  obtain ⟨w, hw, rw'⟩ := r'.get hy
  refine ⟨⟨vs, ws, v, w, q s, q' s, hv, hw⟩, fun x H3 ⟨T, v', w', e1, nT, e2, f1, f2⟩ => ?_⟩
  have h1 := f1 vs (q s)
  have h2 := f2 ws (q' s)
  rw [hv] at h1; cases h1
  rw [hw] at h2; cases h2
  subst e1 e2
  exact ⟨Ext.laid nT, rh.laid nT, RD.newTup rh nT (.cons (rv.sub s) (.cons (rw'.sub s) .nil)) two_ok⟩
theorem itz_ok {a b : Addr} {xs ys : List D} {vs ws : List V} (q : ∀ {J2 : Jn} {H2 : Hp}, Sub J H J2 H2 → SqL K H2 a vs) (r : RDs K J H xs vs) (q' : ∀ {J2 : Jn} {H2 : Hp}, Sub J H J2 H2 → SqL K H2 b ws) (r' : RDs K J H ys ws) :
    ItOk K J H (Itz K a b) ⟨zipD xs ys, none⟩ := by
  refine ⟨fun {J2 h2 H2 i d} s rh _ hd => ?_, fun {J2 h2 H2} s rh _ => ⟨vs, ws, q s, q' s, by rw [← r.length, ← r'.length]; exact zipD_len xs ys⟩⟩
  obtain ⟨dx, dy, hx, hy, rfl⟩ := zipD_get hd
  obtain ⟨v, hv, rv⟩ := r.get hx
  obtain ⟨w, hw, rw'⟩ := r'.get hy
  refine ⟨⟨vs, ws, v, w, q s, q' s, hv, hw⟩, fun x H3 ⟨T, v', w', e1, nT, e2, f1, f2⟩ => ?_⟩
  have h1 := f1 vs (q s)
  have h2 := f2 ws (q' s)
  rw [hv] at h1; cases h1
  rw [hw] at h2; cases h2
  subst e1 e2
  exact ⟨Ext.laid nT, rh.laid nT, RD.newTup rh nT (.cons (rv.sub s) (.cons (rw'.sub s) .nil)) two_ok⟩
theorem lst_st2 {ds : List D} {v : V} (r : RD K J H (.lst ds) v) : ∃ a vs, v = .ref a ∧ (∀ {J2 : Jn} {H2 : Hp}, Sub J H J2 H2 → SqL K H2 a vs) ∧ RDs K J H ds vs := by
  cases r with | lst n m q z r => exact ⟨_, _, rfl, fun s => .inl (.inl (s.l _ _ n m q).2.2), r⟩
theorem pi_zipS {pp tp : Pos} {elts : List Expr} {kk : Nat} (hg : Gl X "zip") (hm : X.mg "zip" = none) (hp : plainX a = true) (hp2 : plainX b = true) (ha : SE X a pa) (hb : SE X b pb) :
    PI X (.Tuple elts kk tp) (.Call (.Name "zip" pp) [a, b] [] pos) (tI X.K fun ρ h => (pa.v ρ h).bind fun x h1 => (pb.v ρ h1).bind fun y h2 => R.opt (zipSrc x y) h2) := by
  have hs2 : starEach [b] X.env = (false, eval b X.env) :: starEach [] X.env := plain_star hp2 [] _
  refine (RZ.pi_zipA hg hm (pa_cons ha.v (pa_cons hb.v pa_nil hs2) (plain_star hp _ _)) (plain_star hp _ _) (by rw [hs2]; rfl)).imp fun σ H Rr ⟨ρ, h, J, re, rh, q⟩ => ?_
  refine (wI.step (R1 := rD X.K) (f := pa.v) re rh q).mono fun x H1 ⟨J1, h1, d, e1, re1, rh1, rx, q1⟩ => ?_
  refine (wI.step (R1 := rD X.K) (f := pb.v) re1 rh1 q1).mono fun y H2 ⟨J2, h2, d2, e2, re2, rh2, ry, q2⟩ => ?_
  have rx := rx.ext e2
  cases hz : zipSrc d d2 with
  | none => rw [hz] at q2; exact False.elim q2
  | some src =>
    rw [hz] at q2
    unfold zipSrc at hz
    split at hz
    · cases hz
      obtain ⟨p, vs, rfl, hq, z, rr⟩ := tup_st rx
      obtain ⟨p', ws, rfl, hq', z', rr'⟩ := tup_st ry
      exact ⟨p, p', vs, ws, rfl, .inr ⟨hq Sub.refl, hq' Sub.refl, q2 J2 H2 _ Ext.refl rh2 (itzT_ok hq rr hq' rr')⟩⟩
    · cases hz
      obtain ⟨p, vs, rfl, hq, rr⟩ := lst_st2 rx
      obtain ⟨p', ws, rfl, hq', rr'⟩ := lst_st2 ry
      exact ⟨p, p', vs, ws, rfl, .inl ⟨hq Sub.refl, hq' Sub.refl, q2 J2 H2 _ Ext.refl rh2 (itz_ok hq rr hq' rr')⟩⟩
    · cases hz
end
end PV
end

section
set_option maxRecDepth 100000
namespace PV
open L2 PySem PySem.Spec PyProof.Rows
section
variable {X : Cx} {e x a b tg : Expr} {p pa pb pc : P} {pos : Pos} {K : PySem.W.Frag} {J : Jn} {H : Hp} {h : Hh}

/-! ### targets -/
/-- storing an item -/
def gD (K : PySem.W.Frag) (t : Tg) (vs : List Nat) : TG := fun v σ H Q => ∃ ρ ρ' h J d, RE K J H ρ σ ∧ RH K J h H ∧ RD K J H d v ∧ t.put d ρ = some ρ' ∧ ∀ σ', RE K J H ρ' σ' → (∀ j, j ∉ vs → σ'[j]? = σ[j]?) → σ'.length = σ.length → Q σ' H
structure ST (X : Cx) (e : Expr) (t : Tg) (vs : List Nat) : Prop where
  run : PG X e (gD X.K t vs)
theorem st_v {i : Nat} {y : Str} (hN : X.N.Nodup) (hi : X.N[i]? = some y) (hx : L2.Loc X.env.scope y) (hf : X.fn y = true ∨ X.env.scope.names.lookup y = some .local) : ST X (.Name y pos) (.v i) [i] := by
  refine ⟨(pg_name hN hi hx hf).imp fun v σ H Q ⟨ρ, ρ', h, J, d, re, rh, rd, e, q⟩ => ?_⟩
  cases e
  exact q _ (re.set i rd) (fun j hj => by rw [List.getElem?_set_ne]; intro z; subst z; exact hj (by simp)) (by simp)
/-- several names -/
structure STs (X : Cx) (es : List Expr) (is : List Nat) : Prop where
  run : PGs X es (fun vs σ H Q => ∃ ρ ρ' h J ds, RE X.K J H ρ σ ∧ RH X.K J h H ∧ RDs X.K J H ds vs ∧ setAll is ds ρ = some ρ' ∧ ∀ σ', RE X.K J H ρ' σ' → (∀ j, j ∉ is → σ'[j]? = σ[j]?) → σ'.length = σ.length → Q σ' H)
  noStar : ∀ e ∈ es, ∃ y p, e = .Name y p
  len : es.length = is.length
theorem _root_.L2.PGs.imp {X : Cx} {e : List Expr} {t t' : TGs} (h : PGs X e t) (i : ∀ v σ H Q, t' v σ H Q → t v σ H Q) : PGs X e t' := ⟨fun p s σ H v u Q I r q => h.run p s σ H v u Q I r (i v σ H Q q)⟩
theorem sts_nil : STs X [] [] := by
  refine ⟨pgs_nil.imp fun v σ H Q ⟨ρ, ρ', h, J, ds, re, rh, rs, e, q⟩ => ?_, fun _ z => (by cases z), rfl⟩
  cases ds with
  | nil => cases rs; cases e; exact ⟨rfl, q _ re (fun _ _ => rfl) rfl⟩
  | cons _ _ => cases e
theorem sts_cons {i : Nat} {y : Str} {es : List Expr} {is : List Nat} (hN : X.N.Nodup) (hi : X.N[i]? = some y) (hx : L2.Loc X.env.scope y) (hf : X.fn y = true ∨ X.env.scope.names.lookup y = some .local) (hs : STs X es is) : STs X (.Name y pos :: es) (i :: is) := by
  refine ⟨(pgs_cons (pg_name (pos := pos) hN hi hx hf) hs.run rfl).imp fun v σ H Q ⟨ρ, ρ', h, J, ds, re, rh, rs, e, q⟩ => ?_, fun e he => ?_, by simp [hs.len]⟩
  · cases ds with
    | nil => cases e
    | cons d ds =>
      cases rs with
      | cons r t =>
        refine ⟨_, _, rfl, ?_⟩
        refine ⟨ρ.set i (some d), ρ', h, J, ds, re.set i r, rh, t, e, fun σ' re' hk hl => q σ' re' (fun j hj => ?_) (by rw [hl]; simp)⟩
        simp only [List.mem_cons, not_or] at hj
        rw [hk j hj.2, List.getElem?_set_ne (fun z => hj.1 z.symm)]
  · (rcases List.mem_cons.mp he with rfl | he)
    · exact ⟨_, _, rfl⟩
    · exact hs.noStar e he
theorem each_names : ∀ {es : List Expr} (env : PySem.Env), (∀ e ∈ es, ∃ y p, e = Expr.Name y p) → (assignEach es env).length = es.length ∧ (assignEach es env).findIdx? (·.1) = none
  | [], _, _ => ⟨rfl, rfl⟩
  | e :: es, env, h => by
    obtain ⟨y, p, rfl⟩ := h e List.mem_cons_self
    obtain ⟨h1, h2⟩ := each_names (es := es) env fun e he => h e (List.mem_cons_of_mem _ he)
    constructor
    · show (assignEach es env).length + 1 = es.length + 1
      rw [h1]
    · show ((false, assign (.Name y p) env) :: assignEach es env).findIdx? (·.1) = none
      rw [List.findIdx?_cons]
      simp [h2]
theorem setAll_len : ∀ {is : List Nat} {ds : List D} {ρ ρ' : Env}, setAll is ds ρ = some ρ' → ds.length = is.length
  | [], [], _, _, _ => rfl
  | [], _ :: _, _, _, h => by cases h
  | _ :: _, [], _, _, h => by cases h
  | i :: is, d :: ds, ρ, ρ', h => by simp [setAll_len (is := is) (ds := ds) h]
theorem st_tu {es : List Expr} {is : List Nat} {k : Nat} (hc : X.calm = true) (hs : STs X es is) : ST X (.Tuple es k pos) (.tu is) is := by
  obtain ⟨h1, h2⟩ := each_names X.env hs.noStar
  refine ⟨(pg_tup (n := is.length) hc hs.run (h1.trans hs.len) h2).imp fun v σ H Q ⟨ρ, ρ', h, J, d, re, rh, rd, e, q⟩ => ?_⟩
  cases d with
  | tup ds =>
    obtain ⟨a, vs, rfl, hq, z, rs⟩ := rd.tup_inv
    exact ⟨a, vs, rfl, hq, by rw [← rs.length]; exact setAll_len e, ρ, ρ', h, J, ds, re, rh, rs, e, q⟩
  | _ => cases e

/-! ### comprehensions -/
theorem wipe_get {σ : L2.St} : ∀ {vs : List Nat} {j : Nat}, j ∉ vs → (wipe σ vs)[j]? = σ[j]?
  | [], _, _ => rfl
  | v :: vs, j, h => by
    simp only [List.mem_cons, not_or] at h
    unfold wipe
    rw [List.getElem?_set_ne (fun z => h.1 z.symm), wipe_get h.2]
theorem wipe_in {σ : L2.St} : ∀ {vs : List Nat} {j : Nat}, j ∈ vs → j < σ.length → (wipe σ vs)[j]? = some none
  | v :: vs, j, h, hl => by
    unfold wipe
    by_cases hj : v = j
    · subst hj; rw [List.getElem?_set_self (by rw [wipe_length]; exact hl)]
    · rw [List.getElem?_set_ne hj]
      exact wipe_in ((List.mem_cons.mp h).resolve_left fun z => hj z.symm) hl
theorem wipe_same {σ σ' : L2.St} {vs : List Nat} (h : ∀ j, j ∉ vs → σ'[j]? = (wipe σ vs)[j]?) (hl : σ'.length = (wipe σ vs).length) : wipe σ' vs = wipe σ vs := by
  have hl2 : σ'.length = σ.length := by rw [hl, wipe_length]
  apply List.ext_getElem?
  intro j
  by_cases hj : j ∈ vs
  · by_cases hb : j < σ.length
    · rw [wipe_in hj (by rw [hl2]; exact hb), wipe_in hj hb]
    · rw [List.getElem?_eq_none (by rw [wipe_length, hl2]; omega), List.getElem?_eq_none (by rw [wipe_length]; omega)]
  · rw [wipe_get hj, h j hj]
/-- the names ahead of a comprehension, its own forgotten -/
def wipeD : List Nat → Env → Env
  | [], ρ => ρ
  | v :: vs, ρ => (wipeD vs ρ).set v none
theorem RE.wipe {ρ : Env} {σ : L2.St} (r : RE K J H ρ σ) : ∀ vs : List Nat, RE K J H (wipeD vs ρ) (wipe σ vs)
  | [] => r
  | v :: vs => by
    have ih := RE.wipe r vs
    unfold wipeD L2.wipe
    refine ⟨by simp [ih.len], fun j d q => ?_⟩
    by_cases hj : v = j
    · subst hj
      by_cases hl : v < (wipeD vs ρ).length
      · rw [List.getElem?_set_self hl] at q; cases q
      · rw [List.getElem?_eq_none (by simpa using hl)] at q; cases q
    · rw [List.getElem?_set_ne hj] at q
      obtain ⟨w, h1, h2⟩ := ih.get j d q
      exact ⟨w, by rw [List.getElem?_set_ne hj]; exact h1, h2⟩
theorem Sub.re {J J' : Jn} {H H' : Hp} {ρ : Env} {σ : L2.St} (s : Sub J H J' H') (r : RE K J H ρ σ) : RE K J' H' ρ σ := ⟨r.len, fun i d q => let ⟨v, a, b⟩ := r.get i d q; ⟨v, a, b.sub s⟩⟩
theorem setAll_of : ∀ {is : List Nat} {ds : List D} {ρ1 ρ2 : Env}, (∀ j, j ∉ is → ρ1[j]? = ρ2[j]?) → ρ1.length = ρ2.length → setAll is ds ρ1 = setAll is ds ρ2
  | [], [], ρ1, ρ2, h, _ => by
    have : ρ1 = ρ2 := List.ext_getElem? fun j => h j (by simp)
    rw [this]
  | [], _ :: _, _, _, _, _ => rfl
  | _ :: _, [], _, _, _, _ => rfl
  | i :: is, d :: ds, ρ1, ρ2, h, hl => by
    unfold setAll
    refine setAll_of (fun j hj => ?_) (by simp [hl])
    by_cases e : i = j
    · subst e
      rw [List.getElem?_set, List.getElem?_set, hl]
      simp
    · rw [List.getElem?_set_ne e, List.getElem?_set_ne e]
      exact h j (by simp only [List.mem_cons, not_or]; exact ⟨fun z => e z.symm, hj⟩)
theorem wipeD_get {ρ : Env} : ∀ {vs : List Nat} {j : Nat}, j ∉ vs → (wipeD vs ρ)[j]? = ρ[j]?
  | [], _, _ => rfl
  | v :: vs, j, h => by
    simp only [List.mem_cons, not_or] at h
    unfold wipeD
    rw [List.getElem?_set_ne (fun z => h.1 z.symm), wipeD_get h.2]
theorem wipeD_len {ρ : Env} : ∀ {vs : List Nat}, (wipeD vs ρ).length = ρ.length
  | [] => rfl
  | v :: vs => by unfold wipeD; rw [List.length_set, wipeD_len]
theorem put_wipe (t : Tg) (d : D) (ρ : Env) : t.put d (wipeD t.slots ρ) = t.put d ρ := by
  cases t with
  | v i => simp [Tg.put, Tg.slots, wipeD]
  | tu is =>
    unfold Tg.put Tg.slots
    cases d with
    | tup xs => exact setAll_of (fun j hj => wipeD_get hj) wipeD_len
    | _ => rfl
/-- the reading of a comprehension is what the rule wants -/
theorem lc_read {t : Tg} {f : Env → Hh → R Src} {pt pe : P} {σ : L2.St} {Q : VK} (hq : tF K (fun ρ h => (f ρ h).bind fun s h1 => if sizeOk s.items.length then lcLoop s.good (lcTurn t pt pe ρ) s.items [] h1 else .bad) σ H Q) :
    tLc (tI K f) (gD K t t.slots) (tG K rB pt.t) (tG K (rD K) pe.v) t.slots σ H Q := by
  obtain ⟨ρ, h, J, re, rh, q⟩ := hq
  refine ⟨ρ, h, J, re, rh, ?_⟩
  dsimp only at q
  cases ev : f ρ h with
  | bad => rw [ev] at q; exact q
  | err _ _ => rw [ev] at q; exact q
  | ok src h1 =>
    rw [ev, R.bind_ok] at q
    cases hsi : sizeOk src.items.length with
    | false => rw [hsi] at q; exact False.elim q
    | true =>
    rw [hsi] at q
    simp only [if_true] at q
    intro J1 H1 it e1 rh1 itok D nD
    have nDH : H D = none := by
      cases hp : H D with
      | none => rfl
      | some u =>
        exfalso
        by_cases n : D ∈ J.l
        · obtain ⟨m, hm, _⟩ := e1.pre
          obtain ⟨u', h2⟩ := rh1.inl (a := D) (by rw [hm]; exact List.mem_append_left _ n)
          rw [nD] at h2; cases h2
        · have := e1.keep D u n hp; rw [nD] at this; cases this
    -- the loop's word: so many items are gone, what is made so far lies at D
    let W : Nat → Nat → Hp → Prop := fun i m H2 => m = src.items.length - i ∧ i ≤ src.items.length ∧ ∃ J2 h2 acc vs, J2.z = D :: J.z ∧ Ext J H ⟨J2.l, J.z⟩ H2 ∧ Sub J1 H1 J2 H2 ∧ RH K J2 h2 H2 ∧ H2 D = some (.lst vs) ∧ vs.length ≤ i ∧ vs.length ≤ sizeLine ∧ RDs K J2 H2 acc vs ∧
      (match lcLoop src.good (lcTurn t pt pe ρ) (src.items.drop i) acc h2 with
        | .ok (.lst ds) h' => ∀ J' H' a vs, Ext J H ⟨J'.l, J.z⟩ H' → J'.z = a :: J.z → RH K J' h' H' → H' a = some (.lst vs) → vs.length ≤ sizeLine → RDs K J' H' ds vs → H a = none → Q (.ref a) H'
        | _ => False)
    refine ⟨W, ⟨src.items.length, by simp, Nat.zero_le _, J1.hide D, h1, [], [], by rw [← e1.z], ?_, (Sub.hide nD).trans (Ext.laid nD).sub, rh1.hide nD, upd_same, Nat.zero_le _, Nat.zero_le _, .nil, q⟩, fun i m H2 hW => ?_⟩
    · exact ⟨rfl, e1.pre, fun a o n q => by rw [upd_ne (ne_of_none (e1.keep a o n q) nD)]; exact e1.keep a o n q⟩
    · obtain ⟨rfl, hi', J2, h2, acc, vs, ez, e2, s2, rh2, hD, hv, hsz, rs, q⟩ := hW
      cases hd : src.items[i]? with
      | none =>
        -- the end
        have hlen : i = src.items.length := by have := List.getElem?_eq_none_iff.mp hd; omega
        subst hlen
        rw [List.drop_eq_nil_of_le (Nat.le_refl _)] at q
        unfold lcLoop at q
        split at q
        · rename_i ds h' heq
          split at heq
          · rename_i hgood
            cases heq
            exact .inl ⟨itok.stop s2 rh2 hgood, q J2 H2 D vs e2 ez rh2 hD hsz rs nDH⟩
          · cases heq
        · exact False.elim q
      | some d =>
        have hlt : i < src.items.length := (List.getElem?_eq_some_iff.mp hd).1
        rw [List.drop_eq_getElem_cons hlt] at q
        have hde : src.items[i] = d := by rw [List.getElem?_eq_getElem hlt] at hd; exact Option.some.inj hd
        rw [hde] at q
        unfold lcLoop at q
        cases hgood : src.good h2 with
        | false => rw [hgood] at q; exact False.elim q
        | true =>
          rw [hgood] at q
          simp only [if_true] at q
          obtain ⟨g1, g2⟩ := itok.go s2 rh2 hgood hd
          refine .inr ⟨g1, fun H' => ∃ m', m' < src.items.length - i ∧ W (i + 1) m' H', fun H' z => z, fun xv H3 y3 => ?_⟩
          obtain ⟨e3, rh3, rd3⟩ := g2 xv H3 y3
          have hD3 : H3 D = some (.lst vs) := e3.keep D _ (rh2.apart D (by rw [ez]; exact List.mem_cons_self)) hD
          cases ht2 : t.put d ρ with
          | none => simp only [lcTurn, ht2] at q
          | some ρ' =>
            simp only [lcTurn, ht2] at q
            have re3 : RE K J2 H3 ρ σ := (re.ext e1 |> Sub.re s2).ext e3
            have sub3 : Sub J1 H1 J2 H3 := s2.trans e3.sub
            have ext3 : Ext J H ⟨J2.l, J.z⟩ H3 := ⟨rfl, e2.pre, fun a o n q => e3.keep a o (e2.notin n q) (e2.keep a o n q)⟩
            refine ⟨_, ρ', h2, J2, d, re3.wipe _, rh3, rd3, by rw [put_wipe]; exact ht2, fun σ2 re4 hk hl => ⟨wipe_same hk hl, ?_⟩⟩
            -- the test, the element
            have nx : ∀ (J5 : Jn) (h5 : Hh) (H5 : Hp) (acc5 : List PV.D) (vs5 : List V), Ext J2 H3 J5 H5 → RH K J5 h5 H5 → (∀ u, Ext J H ⟨J5.l, J.z⟩ (upd H5 D u)) ∧ Sub J1 H1 J5 H5 := fun J5 h5 H5 acc5 vs5 e5 rh5 => by
              refine ⟨fun u => ⟨rfl, ?_, fun a o n q => ?_⟩, sub3.trans e5.sub⟩
              · obtain ⟨m1, hm1, f1⟩ := ext3.pre
                obtain ⟨m2, hm2, f2⟩ := e5.pre
                have hm1 : J2.l = J.l ++ m1 := hm1
                refine ⟨m1 ++ m2, by show J5.l = _; rw [hm2, hm1, List.append_assoc], fun a ha => ?_⟩
                rcases List.mem_append.mp ha with z | z
                · exact f1 a z
                · cases hp : H a with
                  | none => rfl
                  | some w =>
                    exfalso
                    by_cases n : a ∈ J.l
                    · obtain ⟨w', h2'⟩ := rh3.inl (a := a) (by rw [hm1]; exact List.mem_append_left _ n)
                      rw [f2 a z] at h2'; cases h2'
                    · have := ext3.keep a w n hp; rw [f2 a z] at this; cases this
              · have hne : a ≠ D := by rintro rfl; rw [nDH] at q; cases q
                rw [upd_ne hne]
                exact e5.keep a o (ext3.notin n q) (ext3.keep a o n q)
            refine ⟨ρ', h2, J2, re4, rh3, ?_⟩
            cases et : pt.t ρ' h2 with
            | bad => rw [et] at q; exact False.elim q
            | err _ _ => rw [et] at q; exact False.elim q
            | ok okb h3 =>
              rw [et, R.bind_ok] at q
              intro J4 H4 bb e4 rh4 hbb
              have hbb : okb = bb := hbb
              subst hbb
              have hD4 : H4 D = some (.lst vs) := e4.keep D _ (rh3.apart D (by rw [ez]; exact List.mem_cons_self)) hD3
              cases okb with
              | false =>
                simp only [Bool.false_eq_true, if_false] at q ⊢
                obtain ⟨n1, n2⟩ := nx J4 h3 H4 acc vs e4 rh4
                refine ⟨_, by omega, rfl, hlt, J4, h3, acc, vs, by rw [e4.z, ez], ?_, n2, rh4, hD4, by omega, hsz, (rs.ext e3).ext e4, q⟩
                have := n1 (.lst vs)
                have hu : upd H4 D (.lst vs) = H4 := by funext a; unfold upd; split <;> simp_all
                rwa [hu] at this
              | true =>
                simp only [if_true] at q ⊢
                refine ⟨ρ', h3, J4, re4.ext e4, rh4, ?_⟩
                cases ee : pe.v ρ' h3 with
                | bad => rw [ee] at q; exact False.elim q
                | err _ _ => rw [ee] at q; exact False.elim q
                | ok y h4 =>
                  rw [ee] at q
                  simp only [R.bind_ok] at q
                  intro J5 H5 yv e5 rh5 ry
                  have hz4 : D ∈ J4.z := by rw [e4.z, ez]; exact List.mem_cons_self
                  have hz5 : D ∈ J5.z := by rw [e5.z]; exact hz4
                  have hD5 : H5 D = some (.lst vs) := e5.keep D _ (rh4.apart D hz4) hD4
                  have e45 : Ext J2 H3 J5 H5 := e4.trans rh3 rh4 e5
                  obtain ⟨n1, n2⟩ := nx J5 h4 H5 acc vs e45 rh5
                  have hlen : vs.length < sizeLine := by have := size_of hsi; omega
                  refine ⟨vs, hD5, hlen, _, by omega, rfl, hlt, J5, h4, acc ++ [y], vs ++ [yv], by rw [e5.z, e4.z, ez], n1 _, n2.trans (Sub.writeZ hz5), rh5.writeZ hz5, upd_same, by simp; omega, by simp; omega, ?_, q⟩
                  exact (((rs.ext e3).ext e45).append (.cons ry .nil)).sub (Sub.writeZ hz5)
theorem se_lcF {elt iter : Expr} {ifs : List Expr} {scope : Scope} {own : List (Str × Nat)} {t : Tg} {f : Env → Hh → R Src} {pt pe : P} {tt : TT} (hc : X.calm = true) (hN : X.N.Nodup) (hi : PI X tg iter (tI X.K f)) (ok : BlkOk X.N X.env.scope scope own) (hown : own.map (·.2) = t.slots)
    (hg : ∀ (s : Shared) (H : Hp) (C : Addr) (cl : List (Str × Addr)) (fp : List Addr), ST (X.blk s H scope (compEnvC scope cl C X.env) fp) tg t t.slots)
    (ht : ∀ (s : Shared) (H : Hp) (C : Addr) (cl : List (Str × Addr)) (fp : List Addr), PTs (X.blk s H scope (compEnvC scope cl C X.env) fp) ifs (tG X.K rB pt.t))
    (he : ∀ (s : Shared) (H : Hp) (C : Addr) (cl : List (Str × Addr)) (fp : List Addr), PE (X.blk s H scope (compEnvC scope cl C X.env) fp) elt (tG X.K (rD X.K) pe.v)) (hs : ∀ x, foldedSetIterable iter X.env x = pure x) :
    PE X (.ListComp elt [⟨tg, iter, ifs, 0⟩] scope pos) (tF X.K fun ρ h => (f ρ h).bind fun s h1 => if sizeOk s.items.length then lcLoop s.good (lcTurn t pt pe ρ) s.items [] h1 else .bad) := by
  refine (pe_lc (g := gD X.K t t.slots) (tt := tG X.K rB pt.t) (te := tG X.K (rD X.K) pe.v) hc hN hi ok (fun s H C cl fp => (hg s H C cl fp).run) ht he hs).imp fun σ H Q q => ?_
  rw [hown]
  exact lc_read q
end
end PV
end

section
set_option maxRecDepth 100000
/-! PvQ: enumerate of a tuple, collected into a tuple. -/
namespace PVQ
open PySem
open PySem.Sem (wp)
theorem new_enumT (t : Addr) (items : Array Value) (k : Nat) (dc : Option Addr) (sl : Array (Option Value)) :
    Meets (Builtin.«enumerate.__new__» ⟨[.type "enumerate", .ref t], []⟩) (fun _ R s => s.heap.get? t = some { cls := .type "tuple", dict := dc, data := .seq items k, slots := sl } ∧
      R (.ok (.ret (.ref (s.heap.push { cls := .type "tuple_iterator", data := .fields #[.ref t, .int 0 0] }).objs.size)))
        { s with heap := (s.heap.push { cls := .type "tuple_iterator", data := .fields #[.ref t, .int 0 0] }).push { cls := .type "enumerate", data := .fields #[.none, .bool false, .ref s.heap.objs.size, rawInt 0, .none, .none] } }) :=
  .of_wp fun prog w A R s hyp => by
    obtain ⟨hp, gn, dr, tk, os⟩ := s
    obtain ⟨hget, hR⟩ := hyp
    have sub := sub_enumerate
    have isT : Heap.IsTuple (Shared.heap ⟨hp, gn, dr, tk, os⟩) t items := ⟨_, hget, rfl, k, rfl⟩
    wp_walk using PySem.AutoSeq1.wpAny_loadPart' hget
    (refine wpAny_stack_any fun st => wpAny_pure ?_)
    split
    · rename_i cl _ _ _ _ _
      cases (cl == Value.type "enumerate")
      · wp_walk using PySem.AutoSeq1.wpAny_loadPart' hget, wpAny_pyIter_tuple isT
        exact ⟨_, rfl, hR⟩
      · wp_walk using PySem.AutoSeq1.wpAny_loadPart' hget, wpAny_pyIter_tuple isT
        exact ⟨_, rfl, hR⟩
    · wp_walk using PySem.AutoSeq1.wpAny_loadPart' hget, wpAny_pyIter_tuple isT
      exact ⟨_, rfl, hR⟩
section
variable {w : World} {prog : Program} {A : Around} {E : Value → Shared → Prop} {s : Shared}
theorem call_enumT {t : Addr} {items : Array Value} {Q : Value → Shared → Prop} (ht : s.heap.IsTuple t items)
    (hq : ∀ h', IsEnum h' (s.heap.objs.size + 1) s.heap.objs.size 0 .none → h'.IsTupleIter s.heap.objs.size t 0 → h'.objs.size = s.heap.objs.size + 2 → (∀ b o, s.heap.get? b = some o → h'.get? b = some o) →
      Q (.ref (s.heap.objs.size + 1)) { s with heap := h' }) : wpAny (model prog w) A (call (.type "enumerate") [.ref t]) Q E s := by
  obtain ⟨⟨cl, dc, dt, sl⟩, hget, hc, k, hd⟩ := ht
  cases (show cl = .type "tuple" from hc)
  cases (show dt = .seq items k from hd)
  refine callType_new F.called_enumerate (by decide) (F.typeCall_enumerate_1 _) (F.newCall_enumerate_1 _) (fun ob => F.args_object_init_2 ob _) F.entry_enumerate_new (new_enumT t items k dc sl) ⟨hget, ?_⟩
  have size1 : (s.heap.push { cls := .type "tuple_iterator", data := .fields #[.ref t, .int 0 0] }).objs.size = s.heap.objs.size + 1 := Heap.size_push ..
  show _ ∧ _
  rw [size1]
  have isE : IsEnum ((s.heap.push { cls := .type "tuple_iterator", data := .fields #[.ref t, .int 0 0] }).push { cls := .type "enumerate", data := .fields #[.none, .bool false, .ref s.heap.objs.size, rawInt 0, .none, .none] }) (s.heap.objs.size + 1) s.heap.objs.size 0 .none := by
    have q := Heap.get?_push_size (s.heap.push { cls := .type "tuple_iterator", data := .fields #[.ref t, .int 0 0] }) (o := { cls := .type "enumerate", data := .fields #[.none, .bool false, .ref s.heap.objs.size, rawInt 0, .none, .none] }) rfl
    rwa [size1] at q
  exact ⟨⟨_, isE, rfl⟩, hq _ isE ⟨_, Heap.get?_push_of_some _ (Heap.get?_push_size _ rfl), rfl, rfl⟩ (by rw [Heap.size_push, size1]) fun b o x => Heap.get?_push_of_some _ (Heap.get?_push_of_some _ x)⟩
/-- next while a tuple that was given out is still there -/
theorem next_heldT {e it t T : Addr} {i : Nat} {items : Array Value} {x old : Value} {fl : Bool} {oT : Obj} {Q : Option Value → Shared → Prop}
    (he : IsEnumHeld s.heap e it i old T fl) (hT : s.heap.get? T = some oT) (nTe : T ≠ e) (nTi : T ≠ it) (hi : s.heap.IsTupleIter it t i) (ht : s.heap.IsTuple t items) (hx : items[i]? = some x) (nei : e ≠ it)
    (hq : ∀ h' tk, IsEnumHeld h' e it ((i : Int) + 1) old T true → h'.IsTupleIter it t (i + 1) → h'.get? s.heap.objs.size = some { cls := .type "tuple", data := .seq #[.int i tk, x] } → h'.objs.size = s.heap.objs.size + 1 →
      (∀ b o, b ≠ e → b ≠ it → s.heap.get? b = some o → h'.get? b = some o) →
      Q (some (.ref s.heap.objs.size)) { s with heap := h', toks := tk + 1 }) : wpAny (model prog w) A (pyNext (.ref e)) Q E s := by
  have isTy : s.TypeIs (.ref e) "enumerate" := ⟨_, he, rfl⟩
  unfold pyNext
  refine wpAny_bind (wpAny_attempt (wpAny_callSpecial?_slot (name := Str.ofString "__next__") isTy F.slot_enumerate_next (wpAny_call_entry F.slot_enumerate_next isTy F.entry_enumerate_next ?_ (F.args_enumerate_next_1 _))))
  obtain ⟨hp, gn, dr, tk, os⟩ := s
  (show wpAny _ _ (field (.ref e) 2 >>= _) _ _ _)
  refine wpAny_bind (wpAny_field he rfl (x := .ref it) rfl (wpAny_bind (wpAny_nextOf_tuple_item hi ht hx fun g1 hi1 sb1 => ?_)))
  have sb1 : Heap.SameBut it hp g1 := sb1
  have he1 : IsEnumHeld g1 e it i old T fl := (sb1.2 e nei).trans he
  show wpAny _ _ (field (.ref e) 3 >>= _) _ _ ⟨g1, gn, dr, tk, os⟩
  refine wpAny_bind (wpAny_field he1 rfl (x := rawInt i) rfl ?_)
  show wpAny _ _ (field (.ref e) 4 >>= _) _ _ ⟨g1, gn, dr, tk, os⟩
  refine wpAny_bind (wpAny_field he1 rfl (x := .none) rfl ?_)
  show wpAny _ _ (mkInt i >>= _) _ _ ⟨g1, gn, dr, tk, os⟩
  (refine wpAny_bind (wpAny_mkInt ?_))
  show wpAny _ _ (setField (.ref e) 3 (rawInt ((i : Int) + 1)) >>= _) _ _ ⟨g1, gn, dr, tk + 1, os⟩
  refine wpAny_bind (wpAny_setField_rec he1 (by simp) fun g2 he2 sb2 => ?_)
  have sb2 : Heap.SameBut e g1 g2 := sb2
  have he2 : IsEnumHeld g2 e it ((i : Int) + 1) old T fl := he2
  show wpAny _ _ (setField (.ref e) 4 .none >>= _) _ _ ⟨g2, gn, dr, tk + 1, os⟩
  refine wpAny_bind (wpAny_setField_rec he2 (by simp) fun g3 he3 sb3 => ?_)
  have sb3 : Heap.SameBut e g2 g3 := sb3
  have he3 : IsEnumHeld g3 e it ((i : Int) + 1) old T fl := he3
  show wpAny _ _ (newTuple [.int i tk, x] >>= _) _ _ ⟨g3, gn, dr, tk + 1, os⟩
  (refine wpAny_bind (wpAny_newTuple ?_))
  have sz3 : g3.objs.size = hp.objs.size := by rw [sb3.1, sb2.1, sb1.1]
  have he4 : IsEnumHeld (g3.push { cls := .type "tuple", data := .seq #[.int i tk, x] }) e it ((i : Int) + 1) old T fl := Heap.get?_push_of_some _ he3
  have keep4 : ∀ b o, b ≠ e → b ≠ it → hp.get? b = some o → (g3.push { cls := .type "tuple", data := .seq #[.int i tk, x] }).get? b = some o := fun b o hbe hbi hb =>
    Heap.get?_push_of_some _ (sb3.extBut b o hbe (sb2.extBut b o hbe (sb1.extBut b o hbi hb)))
  have hi4 : (g3.push { cls := .type "tuple", data := .seq #[.int i tk, x] }).IsTupleIter it t (i + 1) := by
    obtain ⟨o, ho, r⟩ := (hi1.extBut sb2.extBut (Ne.symm nei)).extBut sb3.extBut (Ne.symm nei)
    exact ⟨o, Heap.get?_push_of_some _ ho, r⟩
  have new4 : (g3.push { cls := .type "tuple", data := .seq #[.int i tk, x] }).get? hp.objs.size = some { cls := .type "tuple", data := .seq #[.int i tk, x] } := by rw [← sz3]; exact Heap.get?_push_size _ rfl
  have nne : hp.objs.size ≠ e := Nat.ne_of_gt (Heap.lt_size he)
  show wpAny _ _ (Builtin.SmallTypes.ownedTupleIsFree (.ref e) >>= _) _ _ ⟨_, gn, dr, tk + 1, os⟩
  rw [sz3]
  refine wpAny_bind (wpAny_tupleHeld_enum (s := ⟨_, gn, dr, tk + 1, os⟩) he4 (keep4 T oT nTe nTi hT) fun g5 he5 sb5 => ?_)
  have sb5 : Heap.SameBut e _ g5 := sb5
  (simp only [Bool.false_eq_true, if_false])
  (refine wpAny_pure ⟨_, rfl, ?_⟩)
  refine wpAny_pure (hq g5 tk he5 (hi4.extBut sb5.extBut (Ne.symm nei)) (sb5.extBut _ _ nne new4) ?_ fun b o hbe hbi hb => sb5.extBut b o hbe (keep4 b o hbe hbi hb))
  show g5.objs.size = hp.objs.size + 1
  rw [sb5.1, Heap.size_push, sz3]
theorem end_heldT {e it t T : Addr} {i : Nat} {items : Array Value} {old : Value} {fl : Bool} {Q : Option Value → Shared → Prop} (hh : A.handled = none) (he : IsEnumHeld s.heap e it i old T fl) (hi : s.heap.IsTupleIter it t i) (ht : s.heap.IsTuple t items) (hx : items[i]? = none)
    (hq : ∀ h', Heap.ExtBut it s.heap h' → Q none { s with heap := h' }) : wpAny (model prog w) A (pyNext (.ref e)) Q E s := by
  have isTy : s.TypeIs (.ref e) "enumerate" := ⟨_, he, rfl⟩
  unfold pyNext
  refine wpAny_bind (wpAny_attempt (wpAny_callSpecial?_slot (name := Str.ofString "__next__") isTy F.slot_enumerate_next (wpAny_call_entry F.slot_enumerate_next isTy F.entry_enumerate_next ?_ (F.args_enumerate_next_1 _))))
  (show wpAny _ _ (field (.ref e) 2 >>= _) _ _ _)
  refine wpAny_bind (wpAny_field he rfl (x := .ref it) rfl (wpAny_bind (wpAny_nextOf_tuple_end hh hi ht hx fun h' y ex ey => ?_)))
  obtain ⟨o, ho, hc⟩ := ey
  exact wpAny_bind (wpAny_isInstance (T := "StopIteration") (b := true) ⟨o, ho, hc⟩ isSubtype_stop (wpAny_pure (hq _ ex)))

/-! ### the loop that collects the pairs -/
structure Pairs (items : Array Value) (e it S : Addr) (acc : Array Value) (h : Heap) : Prop where
  at_ : ∀ (j : Nat) (v : Value), acc[j]? = some v → ∃ (T : Addr) (tk : Tok) (x : Value), v = .ref T ∧ items[j]? = some x ∧ h.get? T = some { cls := .type "tuple", data := .seq #[.int (j : Int) tk, x] } ∧ T ≠ e ∧ T ≠ it ∧ T ≠ S ∧ e < T
structure At (items : Array Value) (e it t S : Addr) (i : Nat) (acc : Array Value) (c : Nat) (h : Heap) : Prop where
  en : (i = 0 ∧ ∃ old, IsEnum h e it 0 old) ∨ ∃ (old : Value) (T : Addr) (fl : Bool) (oT : Obj), IsEnumHeld h e it (i : Int) old T fl ∧ h.get? T = some oT ∧ T ≠ e ∧ T ≠ it ∧ T ≠ S
  ti : h.IsTupleIter it t i
  tp : h.IsTuple t items
  ls : h.get? S = some { cls := .type "list", dict := none, data := .seq acc c, slots := #[] }
  sz : acc.size = i
  ps : Pairs items e it S acc h
theorem nextT (hh : A.handled = none) {items : Array Value} {e it t S : Addr} {i c : Nat} {acc : Array Value} (n1 : e ≠ it) (n2 : t ≠ it) (n3 : t ≠ e) (a : At items e it t S i acc c s.heap) (hlt : i < items.size) {Q : Option Value → Shared → Prop}
    (hq : ∀ (g : Heap) (tk : Tok), (∃ (old : Value) (T : Addr) (fl : Bool) (oT : Obj), IsEnumHeld g e it ((i + 1 : Nat) : Int) old T fl ∧ g.get? T = some oT ∧ T ≠ e ∧ T ≠ it ∧ T ≠ S) → g.IsTupleIter it t (i + 1) → g.IsTuple t items →
      g.get? s.heap.objs.size = some { cls := .type "tuple", data := .seq #[.int (i : Int) tk, items[i]] } → (∀ b o, b ≠ e → b ≠ it → s.heap.get? b = some o → g.get? b = some o) → Q (some (.ref s.heap.objs.size)) { s with heap := g, toks := tk + 1 }) :
    (wpAny (model prog w) A (pyNext (.ref e)) Q E s) := by
  obtain ⟨oi, goi, _⟩ := id a.ti
  have z1 : s.heap.objs.size ≠ it := Nat.ne_of_gt (Heap.lt_size goi)
  have z3 : s.heap.objs.size ≠ S := Nat.ne_of_gt (Heap.lt_size a.ls)
  rcases a.en with ⟨i0, old, he⟩ | ⟨old, T, fl, oT, he, hT, m1, m2, m3⟩
  · have z4 : s.heap.objs.size ≠ e := Nat.ne_of_gt (Heap.lt_size he)
    subst i0
    refine wpAny_pyNext_enum_itemD (Draws.tuple (A := A.in1) hh it t n2 items) he ⟨a.ti, a.tp⟩ hlt n1 (fun hm => ?_) fun x g tk hP ho hs2 new _ keep => ?_
    · rcases List.mem_cons.mp hm with z | z
      · exact n1 z
      · exact n3 (List.mem_singleton.mp z).symm
    · have hx : items[0] = x := by rw [Array.getElem?_eq_getElem hlt] at hP; exact Option.some.inj hP
      subst hx
      exact hq g tk ⟨_, _, false, _, ho, new, z4, z1, z3⟩ hs2.1 hs2.2 new keep
  · refine next_heldT he hT m1 m2 a.ti a.tp (Array.getElem?_eq_getElem hlt) n1 fun g tk ho hi2 new _ keep => ?_
    exact hq g tk ⟨_, T, true, oT, ho, keep T _ m1 m2 hT, m1, m2, m3⟩ hi2 (a.tp.at fun o q => keep t o n3 n2 q) new keep
theorem loopT (hh : A.handled = none) {items : Array Value} {e it t S : Addr} (n1 : e ≠ it) (n2 : t ≠ it) (n3 : t ≠ e) (n4 : S ≠ e) (n5 : S ≠ it) (n6 : S ≠ t) (hz : items.size ≤ sizeLine) (res : Value) {R : Result → Shared → Prop} :
    ∀ (k i : Nat) (s : Shared) (acc : Array Value) (c : Nat), items.size - i = k → i ≤ items.size → At items e it t S i acc c s.heap →
    (∀ (h' : Heap) (tk' : Tok) (acc' : Array Value) (c' : Nat), acc'.size = items.size → Pairs items e it S acc' h' → h'.get? S = some { cls := .type "list", dict := none, data := .seq acc' c', slots := #[] } → (∀ b o, b ≠ e → b ≠ it → b ≠ S → s.heap.get? b = some o → h'.get? b = some o) →
      R (.ok (.ret res)) { s with heap := h', toks := tk' }) → codeAny (model prog w) A (.builtin "list.extend.loop" ⟨[.ref S, .ref e, res], []⟩) R s := by
  intro k
  induction k with
  | zero =>
    intro i s acc c hk hi a hR
    have e0 : i = items.size := by omega
    subst e0
    (refine codeAny_builtin F.entry_extend_loop ?_)
    (rw [Around.under_plainId F.plain_extend_loop _])
    show wpAny _ A.in1 (pyNext (.ref e) >>= _) _ _ s
    have stop : ∀ h', Heap.ExtBut it s.heap h' → R (.ok (.ret res)) { s with heap := h' } := fun h' x =>
      hR h' s.toks acc c a.sz ⟨fun j v hv => let ⟨T, tk, y, q1, q2, q3, q4, q5, q6⟩ := a.ps.at_ j v hv; ⟨T, tk, y, q1, q2, x T _ q5 q3, q4, q5, q6⟩⟩ (x S _ n5 a.ls) fun b o _ hb _ q => x b o hb q
    rcases a.en with ⟨i0, old, he⟩ | ⟨old, T, fl, oT, he, hT, m1, m2, m3⟩
    · exact wpAny_bind (wpAny_pyNext_enum_endD (Draws.tuple (A := A.in1.in1) hh it t n2 items) he ⟨a.ti, a.tp⟩ fun h' x => wpAny_pure (stop h' x))
    · exact wpAny_bind (end_heldT hh he a.ti a.tp (by simp) fun h' x => wpAny_pure (stop h' x))
  | succ k ih =>
    intro i s acc c hk hi a hR
    (have hlt : i < items.size := by omega)
    (refine codeAny_builtin F.entry_extend_loop ?_)
    (rw [Around.under_plainId F.plain_extend_loop _])
    show wpAny _ A.in1 (pyNext (.ref e) >>= _) _ _ s
    obtain ⟨oi, goi, _⟩ := a.ti
    obtain ⟨ot, got, _⟩ := a.tp
    have z1 : s.heap.objs.size ≠ it := Nat.ne_of_gt (Heap.lt_size goi)
    have z2 : s.heap.objs.size ≠ t := Nat.ne_of_gt (Heap.lt_size got)
    have z3 : s.heap.objs.size ≠ S := Nat.ne_of_gt (Heap.lt_size a.ls)
    have z5 : e < s.heap.objs.size := by
      rcases a.en with ⟨_, old, he⟩ | ⟨old, T, fl, oT, he, _⟩
      · exact Heap.lt_size he
      · exact Heap.lt_size he
    have z4 : s.heap.objs.size ≠ e := Nat.ne_of_gt z5
    refine wpAny_bind (nextT (A := A.in1) (show A.in1.handled = none from hh) n1 n2 n3 a hlt fun g tk en hi2 ht2 new keep => ?_)
    have ls2 := keep S _ n4 n5 a.ls
    show wpAny _ A.in1 (updateSeq S (·.push (.ref s.heap.objs.size)) >>= _) _ _ _
    refine wpAny_bind ?_
    refine wpAny_updateSeq ls2 rfl (wpAny_pure ⟨plainId_quiet F.plain_extend_loop _, ih (i + 1) _ (acc.push (.ref s.heap.objs.size)) _ (by omega) hlt ⟨.inr ?_, ?_, ?_, Heap.get?_update_self _ ls2 rfl, by rw [Array.size_push, a.sz], ⟨fun j v hv => ?_⟩⟩ fun h' tk' acc' c' q1 q2 q3 q4 => ?_⟩)
      (by rw [a.sz]; omega) (by show (acc.push (.ref s.heap.objs.size)).size ≤ sizeLine + 1; rw [Array.size_push, a.sz]; omega)
    · obtain ⟨old, T, fl, oT, r1, r2, r3, r4, r5⟩ := en
      exact ⟨old, T, fl, oT, (Heap.get?_update_other _ _ n4).trans r1, (Heap.get?_update_other _ _ (Ne.symm r5)).trans r2, r3, r4, r5⟩
    · exact hi2.at fun o q => (Heap.get?_update_other _ _ n5).trans q
    · exact ht2.at fun o q => (Heap.get?_update_other _ _ n6).trans q
    · rw [Array.getElem?_push] at hv
      split at hv
      · rename_i ej
        rw [a.sz] at ej
        cases hv
        subst ej
        exact ⟨_, tk, items[j], rfl, Array.getElem?_eq_getElem hlt, (Heap.get?_update_other _ _ (Ne.symm z3)).trans new, z4, z1, z3, z5⟩
      · obtain ⟨T, tk2, y, r1, r2, r3, r4, r5, r6, r7⟩ := a.ps.at_ j v hv
        exact ⟨T, tk2, y, r1, r2, (Heap.get?_update_other _ _ (Ne.symm r6)).trans (keep T _ r4 r5 r3), r4, r5, r6, r7⟩
    · exact hR h' tk' acc' c' q1 q2 q3 fun b o b1 b2 b3 q => q4 b o b1 b2 b3 ((Heap.get?_update_other _ _ (Ne.symm b3)).trans (keep b o b1 b2 q))

theorem nolen_en : typeLookup (.type "enumerate") "__len__" = pure none := by rw [typeLookup_type, builtinLookup_eq_fast]; kernel_rfl
theorem nohint_en : typeLookup (.type "enumerate") "__length_hint__" = pure none := by rw [typeLookup_type, builtinLookup_eq_fast]; kernel_rfl
theorem collectT (hh : A.handled = none) {items : Array Value} {e it t : Addr} {old : Value} (n1 : e ≠ it) (n2 : t ≠ it) (n3 : t ≠ e) (hz : items.size ≤ sizeLine) (he : IsEnum s.heap e it 0 old) (hi : s.heap.IsTupleIter it t 0) (ht : s.heap.IsTuple t items) {Q : List Value → Shared → Prop}
    (hQ : ∀ (h' : Heap) (tk' : Tok) (acc : Array Value), acc.size = items.size → (∀ (j : Nat) (v : Value), acc[j]? = some v → ∃ (T : Addr) (tk : Tok) (x : Value), v = .ref T ∧ items[j]? = some x ∧ h'.get? T = some { cls := .type "tuple", data := .seq #[.int (j : Int) tk, x] } ∧ e < T) →
      (∀ b o, b ≠ e → b ≠ it → s.heap.get? b = some o → h'.get? b = some o) → s.heap.objs.size < h'.objs.size → Q acc.toList { s with heap := h', toks := tk' }) : wpAny (model prog w) A (collect (.ref e)) Q E s := by
  obtain ⟨oi, goi, _⟩ := id hi
  obtain ⟨ot, got, _⟩ := id ht
  have le := Heap.lt_size he
  have li := Heap.lt_size goi
  have lt := Heap.lt_size got
  unfold collect
  refine wpAny_bind (wpAny_runValue (codeAny_builtin F.entry_proto_collect ?_)); rw [Around.under_plainId F.plain_proto_collect _]
  show wpAny _ A.in1 (newList [] >>= fun l => again (.builtin "list.__iadd__" ⟨[l, .ref e], []⟩)) _ _ s
  refine wpAny_bind (wpAny_newObj_type (wpAny_pure ⟨plainId_quiet F.plain_list_iadd _, codeAny_builtin F.entry_list_iadd ?_⟩)); rw [Around.under_plainId F.plain_list_iadd _]
  let g0 := s.heap.push { cls := .type "list", data := .seq ([] : List Value).toArray }
  have k0 : ∀ b o, s.heap.get? b = some o → g0.get? b = some o := fun b o q => Heap.get?_push_of_some _ q
  have he0 : IsEnum g0 e it 0 old := k0 _ _ he
  have isTy : ({ s with heap := g0 } : Shared).TypeIs (.ref e) "enumerate" := ⟨_, he0, rfl⟩
  show wpAny _ A.in1 (Builtin.List.listExtendWith (.ref s.heap.objs.size) (.ref e) (.ref s.heap.objs.size)) _ _ _
  (unfold Builtin.List.listExtendWith)
  refine wpAny_bind (wpAny_typeOf isTy ?_)
  have q1 : Builtin.List.listSameRef (.ref s.heap.objs.size) (.ref e) = false := by simp [Builtin.List.listSameRef, Nat.ne_of_gt le]
  have q2 : (Value.type "enumerate" == Value.type "list") = false := by decide
  have q3 : (Value.type "enumerate" == Value.type "tuple") = false := by decide
  simp only [q1, q2, q3, Bool.or_false, Bool.false_eq_true, if_false]
  refine wpAny_bind (wpAny_pyIter_enum he0 (wpAny_bind (wpAny_holding ?_)))
  (unfold Builtin.List.listLengthHint)
  refine wpAny_bind (wpAny_specialOf isTy nolen_en ?_)
  show wpAny _ A.in1 (specialOf (Value.ref e) (Str.ofString "__length_hint__") >>= _) _ _ _
  refine wpAny_bind (wpAny_specialOf isTy nohint_en (wpAny_pure ?_))
  show wpAny _ A.in1 (rule "list.extend.makes-room" >>= fun _ => Builtin.List.listTouch (.ref s.heap.objs.size) >>= fun _ => again (.builtin "list.extend.loop" ⟨[.ref s.heap.objs.size, .ref e, .ref s.heap.objs.size], []⟩)) _ _ _
  have hS : g0.get? s.heap.objs.size = some { cls := .type "list", data := .seq ([] : List Value).toArray } := Heap.get?_push_size _ rfl
  (refine wpAny_bind (wpAny_rule (wpAny_bind ?_)))
  (show wpAny _ A.in1 (updateSeq s.heap.objs.size (·.push .none) >>= fun _ => updateSeq s.heap.objs.size (·.pop)) _ _ _)
  have hS2 := Heap.get?_update_self (Obj.mapSeq (·.push Value.none)) hS rfl
  have hS3 := Heap.get?_update_self (Obj.mapSeq (·.pop)) hS2 rfl
  refine wpAny_bind (wpAny_updateSeq hS rfl (wpAny_updateSeq hS2 rfl ?_))
  have oth : ∀ b o, b ≠ s.heap.objs.size → g0.get? b = some o → ((g0.update s.heap.objs.size (Obj.mapSeq (·.push Value.none))).update s.heap.objs.size (Obj.mapSeq (·.pop))).get? b = some o :=
    fun b o hb q => (Heap.get?_update_other _ _ (Ne.symm hb)).trans ((Heap.get?_update_other _ _ (Ne.symm hb)).trans q)
  have ne := Nat.ne_of_lt le
  have ni := Nat.ne_of_lt li
  have nt := Nat.ne_of_lt lt
  refine wpAny_pure ⟨plainId_quiet F.plain_extend_loop _, loopT (A := A) hh n1 n2 n3 (Ne.symm ne) (Ne.symm ni) (Ne.symm nt) hz (.ref s.heap.objs.size) items.size 0 _ _ _ (Nat.sub_zero _) (Nat.zero_le _)
    ⟨.inl ⟨rfl, old, oth e _ ne he0⟩, hi.at fun o q => oth it o ni (k0 _ _ q), ht.at fun o q => oth t o nt (k0 _ _ q), hS3, rfl, ⟨fun j v hv => by simp at hv⟩⟩ fun h' tk' acc c' r1 r2 r3 r4 => ?_⟩
  (show wpAny _ A (load s.heap.objs.size >>= _) _ _ _)
  refine wpAny_bind (wpAny_load r3 (wpAny_pure (hQ h' tk' acc r1 (fun j v hv => ?_) (fun b o b1 b2 q => ?_) (Heap.lt_size r3))))
  · obtain ⟨T, tk, x, p1, p2, p3, _, _, _, p4⟩ := r2.at_ j v hv
    exact ⟨T, tk, x, p1, p2, p3, p4⟩
  · have nb : b ≠ s.heap.objs.size := Nat.ne_of_lt (Heap.lt_size q)
    exact r4 b o b1 b2 nb (oth b o nb (k0 b o q))
/-- tuple(e) -/
theorem call_tupleT (hh : A.handled = none) {items : Array Value} {e it t : Addr} {old : Value} (n1 : e ≠ it) (n2 : t ≠ it) (n3 : t ≠ e) (hz : items.size ≤ sizeLine) (he : IsEnum s.heap e it 0 old) (hi : s.heap.IsTupleIter it t 0) (ht : s.heap.IsTuple t items) {Q : Value → Shared → Prop}
    (hQ : ∀ (h' : Heap) (tk' : Tok) (acc : Array Value), acc.size = items.size → (∀ (j : Nat) (v : Value), acc[j]? = some v → ∃ (T : Addr) (tk : Tok) (x : Value), v = .ref T ∧ items[j]? = some x ∧ h'.get? T = some { cls := .type "tuple", data := .seq #[.int (j : Int) tk, x] } ∧ e < T) →
      (∀ b o, b ≠ e → b ≠ it → s.heap.get? b = some o → h'.get? b = some o) → s.heap.objs.size < h'.objs.size → Q (.ref h'.objs.size) { s with heap := h'.push { cls := .type "tuple", data := .seq acc }, toks := tk' }) : wpAny (model prog w) A (call (.type "tuple") [.ref e]) Q E s := by
  have isTy : s.TypeIs (.ref e) "enumerate" := ⟨_, he, rfl⟩
  have core : codeAny (model prog w) A.in1 (.call (.builtin "tuple.__new__") ⟨[.type "tuple", .ref e], []⟩) (wants (fun obj s1 => s1.TypeIs obj "tuple" ∧ Q obj s1) E) s := by
    refine codeAny_of_tree ?_
    show wpAny _ A.in1.in1 (do checkBuiltinCall "tuple.__new__" ⟨[.type "tuple", .ref e], []⟩; again (.builtin "tuple.__new__" ⟨[.type "tuple", .ref e], []⟩)) _ _ s
    refine wpAny_bind (wpAny_of_eq (F.newCall_tuple_1 _) (wpAny_pure ⟨plainId_quiet F.plain_tuple_new _, codeAny_builtin F.entry_tuple_new ?_⟩)); rw [Around.under_plainId F.plain_tuple_new _]
    have u1 := sub_tuple_self
    have u2 := init_tuple_lookup
    have u3 := madeHere_tuple
    wp_walk using wpAny_typeOf isTy, collectT (s := s) (A := A.in1.in1) (show A.in1.in1.handled = none from hh) n1 n2 n3 hz he hi ht
    intro h' tk' acc r1 r2 r3 r4
    (show wpAny _ _ (Builtin.Tuple.tupleExact acc.toList.toArray >>= fun v => ret v) _ _ _)
    (unfold Builtin.Tuple.tupleExact)
    have ea : acc.toList.toArray = acc := by simp
    rw [ea]
    refine wpAny_bind (wpAny_newObj_type (wpAny_pure ?_) (by show acc.size ≤ sizeLine; rw [r1]; exact hz))
    exact ⟨⟨_, Heap.get?_push_size _ rfl, rfl⟩, hQ h' tk' acc r1 r2 r3 r4⟩
  refine callType_codes (Q₁ := fun obj s1 => s1.TypeIs obj "tuple" ∧ Q obj s1) F.called_tuple (F.typeCall_tuple_1 _) F.entry_object_init core fun obj s1 h1 => ?_
  exact ⟨h1.1, F.args_object_init_2 obj _, object_init_meets F.called_tuple.init.lookup F.called_tuple.made (by decide) prog w A.in1 _ s1 ⟨h1.1, rfl, h1.2⟩⟩
end
end PVQ
end

section
set_option maxRecDepth 100000
namespace PV
open L2 PySem PySem.Spec PyProof.Rows
def pairsV (n : Nat) : List V → List (List V)
  | [] => []
  | v :: vs => [.int (n : Int), v] :: pairsV (n + 1) vs
theorem build_ps {h : Heap} {e : Addr} : ∀ {vs : List V} {its accl : List Value} {n : Nat}, Vals vs its → accl.length = its.length →
    (∀ (j : Nat) (v : Value), accl[j]? = some v → ∃ (T : Addr) (tk : Tok) (x : Value), v = .ref T ∧ its[j]? = some x ∧ h.get? T = some { cls := .type "tuple", data := .seq #[.int ((n + j : Nat) : Int) tk, x] } ∧ e < T) →
    ∃ ps : List (Addr × List V), accl = ps.map (fun p => Value.ref p.1) ∧ ps.map (·.2) = pairsV n vs ∧ (∀ p ∈ ps, e < p.1 ∧ p.2.length ≤ 2 ∧ ∃ us : List Value, Vals p.2 us ∧ IsTup h p.1 us.toArray) ∧ (ps.map (·.1)).Nodup ∧
      ∀ p ∈ ps, ∃ (j : Nat) (tk : Tok) (x : Value), n ≤ j ∧ h.get? p.1 = some { cls := .type "tuple", data := .seq #[.int (j : Int) tk, x] }
  | _, _, [], n, .nil, _, _ => ⟨[], rfl, rfl, fun p hp => (by cases hp), List.nodup_nil, fun p hp => (by cases hp)⟩
  | _, _, _ :: _, _, .nil, hl, _ => by cases hl
  | _, _, [], _, .cons _ _, hl, _ => by cases hl
  | v :: vs, it :: its, a :: accl, n, .cons r t, hl, hh => by
    obtain ⟨T, tk, x, e1, e2, e3, e4⟩ := hh 0 a rfl
    have e2 : it = x := by simpa using e2
    subst e1 e2
    obtain ⟨ps, q1, q2, q3, q4, q5⟩ := build_ps (h := h) (e := e) (n := n + 1) t (Nat.succ.inj hl) fun j w hw => by
      obtain ⟨T', tk', x', p1, p2, p3, p4⟩ := hh (j + 1) w (by simpa using hw)
      exact ⟨T', tk', x', p1, by simpa using p2, by rw [show n + 1 + j = n + (j + 1) by omega]; exact p3, p4⟩
    refine ⟨(T, [.int (n : Int), v]) :: ps, by rw [q1]; rfl, by rw [List.map_cons, q2]; rfl, fun p hp => ?_, ?_, fun p hp => ?_⟩
    · (rcases List.mem_cons.mp hp with rfl | hp)
      · exact ⟨e4, Nat.le_refl _, [.int (n : Int) tk, it], .cons ⟨tk, rfl⟩ (.cons r .nil), ⟨_, e3, rfl, _, rfl⟩⟩
      · exact q3 p hp
    · rw [List.map_cons, List.nodup_cons]
      refine ⟨fun hm => ?_, q4⟩
      obtain ⟨p, hp, e0⟩ := List.mem_map.mp hm
      obtain ⟨j, tk2, x2, hj, g2⟩ := q5 p hp
      have e0 : p.1 = T := e0
      rw [e0, e3] at g2
      have := congrArg (fun o : Option Obj => o.map (·.data)) g2
      simp at this
      omega
    · (rcases List.mem_cons.mp hp with rfl | hp)
      · exact ⟨n, tk, it, Nat.le_refl _, e3⟩
      · obtain ⟨j, tk2, x2, hj, g2⟩ := q5 p hp
        exact ⟨j, tk2, x2, by omega, g2⟩
/-- tuples laid at once -/
def layH (lo : Nat) (ps : List (Addr × List V)) (H : Hp) : Hp := fun b => if b < lo then H b else (ps.lookup b).map HO.tup
theorem lay_lt {lo : Nat} {ps : List (Addr × List V)} {H : Hp} {b : Addr} (h : b < lo) : layH lo ps H b = H b := if_pos h
theorem lookup_of {α : Type} : ∀ {ps : List (Addr × α)} {p : Addr × α}, (ps.map (·.1)).Nodup → p ∈ ps → ps.lookup p.1 = some p.2
  | [], _, _, h => by cases h
  | q :: ps, p, nd, h => by
    (rw [List.map_cons, List.nodup_cons] at nd)
    rcases List.mem_cons.mp h with rfl | h2
    · obtain ⟨a, b⟩ := p
      simp [List.lookup]
    · have hne : (p.1 == q.1) = false := by
        simp only [beq_eq_false_iff_ne]
        intro e
        exact nd.1 (List.mem_map.mpr ⟨p, h2, e⟩)
      obtain ⟨qa, qb⟩ := q
      simp only [List.lookup]
      rw [show (p.1 == qa) = false from hne]
      exact lookup_of nd.2 h2
theorem mem_of_lookupA {α : Type} : ∀ {ps : List (Addr × α)} {b : Addr} {x : α}, ps.lookup b = some x → (b, x) ∈ ps
  | [], _, _, h => by simp [List.lookup] at h
  | (a, y) :: ps, b, x, h => by
    simp only [List.lookup] at h
    split at h
    · rename_i e
      cases h
      rw [beq_iff_eq.mp e]; exact List.mem_cons_self
    · exact List.mem_cons_of_mem _ (mem_of_lookupA h)
section
variable {X : Cx} {pins : List (Addr × Obj)} {σ : L2.St} {H : Hp} {s : Shared} {h' : Heap} {ps : List (Addr × List V)}
theorem inv_lay {tk : Nat} (I : L2.Inv X pins σ H s) (k : ∀ b u, s.heap.get? b = some u → h'.get? b = some u) (hp : ∀ p ∈ ps, s.heap.objs.size ≤ p.1) (hl : ∀ p ∈ ps, p.2.length ≤ sizeLine ∧ ∃ us : List Value, Vals p.2 us ∧ IsTup h' p.1 us.toArray) :
    L2.Inv X pins σ (layH s.heap.objs.size ps H) { s with heap := h', toks := tk } := by
  have lt : ∀ {b : Addr} {u : HO}, H b = some u → b < s.heap.objs.size := fun e => I.hok.lt e
  have same : ∀ {b : Addr} {u : HO}, H b = some u → layH s.heap.objs.size ps H b = some u := fun e => (lay_lt (lt e)).trans e
  refine I.un ⟨fun b u q _ _ _ => k b u q, fun b u q _ _ _ => ⟨u.slots, k b u q⟩, fun b u q n _ => (lay_lt (Heap.lt_size q)).trans n, fun b u q _ => ⟨u, k b u q⟩, fun b xs q => same q, fun b u xs q => same q, fun b xs q => ⟨#[], by rw [same q]; simp⟩⟩ fun b u e => ?_
  by_cases hb : b < s.heap.objs.size
  · rw [lay_lt hb] at e
    exact (I.hok b u e).stay (fun c v _ q => k c v q) (fun c q => same q) fun c xs q => same q
  · have e : (ps.lookup b).map HO.tup = some u := by
      have e2 : (if b < s.heap.objs.size then H b else (ps.lookup b).map HO.tup) = some u := e
      rwa [if_neg hb] at e2
    cases hq : ps.lookup b with
    | none => rw [hq] at e; cases e
    | some xs =>
      rw [hq] at e; cases e
      obtain ⟨z, us, r, t⟩ := hl _ (mem_of_lookupA hq)
      exact ⟨z, us, r, t⟩
end
theorem rds_pairs {K : PySem.W.Frag} {J : Jn} {H : Hp} : ∀ {ds : List D} {vs : List V} {ps : List (Addr × List V)} {n : Nat}, RDs K J H ds vs → ps.map (·.2) = pairsV n vs → (∀ p ∈ ps, p.1 ∉ J.l ∧ p.1 ∉ J.z ∧ H p.1 = some (.tup p.2)) → RDs K J H (enumD n ds) (ps.map fun p => V.ref p.1)
  | _, _, [], _, .nil, _, _ => .nil
  | _, _, _ :: _, _, .nil, e, _ => by cases e
  | _, _, [], _, .cons _ _, e, _ => by cases e
  | d :: ds, v :: vs, p :: ps, n, .cons r t, e, hp => by
    rw [List.map_cons] at e
    have e1 : p.2 = [.int (n : Int), v] := (List.cons.inj e).1
    obtain ⟨q1, q2, q3⟩ := hp p List.mem_cons_self
    rw [e1] at q3
    exact .cons (.tup q1 q2 q3 (by show 2 ≤ sizeLine; decide) (.cons (.int _) (.cons r .nil))) (rds_pairs t (List.cons.inj e).2 fun q hq => hp q (List.mem_cons_of_mem _ hq))
theorem vals_refs : ∀ (ps : List (Addr × List V)), Vals (ps.map fun p => V.ref p.1) (ps.map fun p => Value.ref p.1)
  | [] => .nil
  | p :: ps => .cons rfl (vals_refs ps)
section
variable {X : Cx} {pins : List (Addr × Obj)} {σ : L2.St} {H : Hp} {s : Shared} {J : Jn} {h : Hh}
/-- tuple(enumerate(a tuple)) -/
theorem tenum_run {a : Addr} {ds : List D} {Q : VK} (hc : X.calm = true) (I : L2.Inv X pins σ H s) (rh : RH X.K J h H) (rx : RD X.K J H (.tup ds) (.ref a)) (q : ∀ J' H' v, Ext J H J' H' → RH X.K J' h H' → RD X.K J' H' (.tup (enumD 0 ds)) v → Q v H') :
    wpAny (model X.prog X.w) X.A (call (.type "enumerate") [.ref a]) (fun ev s2 => wpAny (model X.prog X.w) X.A (call (.type "tuple") [ev]) (EP X pins σ Q) X.xe s2) X.xe s := by
  obtain ⟨a', vs, ea, hq, z, rs⟩ := rx.tup_inv
  cases ea
  obtain ⟨its, rv, tp, hz⟩ := I.tuple hq
  (have hh : X.A.handled = none := I.ok.hd hc)
  have la : a < s.heap.objs.size := by obtain ⟨o, g, _⟩ := tp; exact Heap.lt_size g
  refine PVQ.call_enumT tp fun g he hi hsz kp => ?_
  have tp2 : g.IsTuple a its.toArray := (show s.heap.IsTuple a its.toArray from tp).at fun o e => kp a o e
  refine PVQ.call_tupleT (s := { s with heap := g }) hh (Nat.succ_ne_self _) (Nat.ne_of_lt la) (Nat.ne_of_lt (Nat.lt_succ_of_lt la)) (by rw [List.size_toArray, ← rv.length]; exact hz) he hi tp2 fun g' tk acc r1 r2 r3 r4 => ?_
  have keep : ∀ b u, s.heap.get? b = some u → g'.get? b = some u := fun b u e => by
    have lb := Heap.lt_size e
    exact r3 b u (Nat.ne_of_lt (Nat.lt_succ_of_lt lb)) (Nat.ne_of_lt lb) (kp b u e)
  obtain ⟨ps, p1, p2, p3, p4, _⟩ := build_ps (h := g') (e := s.heap.objs.size + 1) (n := 0) (accl := acc.toList) rv (by rw [Array.length_toList, r1, List.size_toArray]) fun j v hv => by
    obtain ⟨T, t2, x, e1, e2, e3, e4⟩ := r2 j v (by simpa using hv)
    exact ⟨T, t2, x, e1, by simpa using e2, by rw [Nat.zero_add]; exact e3, e4⟩
  have lps : ps.length = vs.length := by
    have := congrArg List.length p2
    rw [List.length_map] at this
    rw [this]
    have gen : ∀ (vs : List V) (n : Nat), (pairsV n vs).length = vs.length := by
      intro vs
      induction vs with
      | nil => intro n; rfl
      | cons v vs ih => intro n; show (pairsV (n + 1) vs).length + 1 = _; rw [ih]; rfl
    exact gen vs 0
  -- the last tuple
  have g1 : ∀ p ∈ ps, p.1 < g'.objs.size := fun p hp => by
    obtain ⟨_, _, us, _, o, go, _⟩ := p3 p hp
    exact Heap.lt_size go
  have big : s.heap.objs.size ≤ g'.objs.size := by
    have r4 : g.objs.size < g'.objs.size := r4
    rw [hsz] at r4; exact Nat.le_of_lt (Nat.lt_trans (Nat.lt_succ_of_lt (Nat.lt_succ_self _)) r4)
  let all : List (Addr × List V) := (g'.objs.size, ps.map fun p => V.ref p.1) :: ps
  have nd : (all.map (·.1)).Nodup := by
    show (g'.objs.size :: ps.map (·.1)).Nodup
    refine List.nodup_cons.mpr ⟨fun hm => ?_, p4⟩
    (obtain ⟨p, hp, e⟩ := List.mem_map.mp hm)
    have e : p.1 = g'.objs.size := e
    exact Nat.lt_irrefl _ (e ▸ g1 p hp)
  have acc2 : acc = (ps.map fun p => Value.ref p.1).toArray := by rw [← p1]
  have I2 := inv_lay (ps := all) (h' := g'.push { cls := .type "tuple", data := .seq acc }) (tk := tk) I (fun b u e => Heap.get?_push_of_some _ (keep b u e)) (fun p hp => by
    (rcases List.mem_cons.mp hp with rfl | hp)
    · exact big
    · exact Nat.le_of_lt (Nat.lt_trans (Nat.lt_succ_self _) (p3 p hp).1)) (fun p hp => by
    (rcases List.mem_cons.mp hp with rfl | hp)
    · refine ⟨by rw [List.length_map, lps]; exact z, _, vals_refs ps, ⟨_, Heap.get?_push_size _ rfl, rfl, 0, by rw [acc2]⟩⟩
    · obtain ⟨_, l2, us, ru, o, go, gc⟩ := p3 p hp
      exact ⟨Nat.le_trans l2 (by show 2 ≤ sizeLine; decide), us, ru, ⟨o, Heap.get?_push_of_some _ go, gc⟩⟩)
  have at_ : ∀ p ∈ all, s.heap.objs.size ≤ p.1 → layH s.heap.objs.size all H p.1 = some (.tup p.2) := fun p hp hb => by
    show (if p.1 < s.heap.objs.size then H p.1 else (all.lookup p.1).map HO.tup) = _
    rw [if_neg (Nat.not_lt.mpr hb), lookup_of nd hp]; rfl
  have ext : Ext J H J (layH s.heap.objs.size all H) := ⟨rfl, ⟨[], by simp, by simp⟩, fun b o _ e => (lay_lt (I.hok.lt e)).trans e⟩
  have nl : ∀ b, s.heap.objs.size ≤ b → b ∉ J.l ∧ b ∉ J.z := fun b hb => by
    have hn : H b = none := I.hok.fresh hb
    exact ⟨rh.notin hn, rh.notz hn⟩
  have rh2 : RH X.K J h (layH s.heap.objs.size all H) := ⟨rh.nd, rh.len, fun i o e => by
    obtain ⟨b, u, h1, h2, h3⟩ := rh.obj i o e
    exact ⟨b, u, h1, (lay_lt (I.hok.lt h2)).trans h2, h3.ext ext⟩, rh.apart, fun b hb => by
    cases hbu : H b with
    | none => exact absurd hbu (rh.zed b hb)
    | some u => rw [(lay_lt (I.hok.lt hbu)).trans hbu]; simp⟩
  refine ⟨.ref g'.objs.size, _, I2, rfl, q J _ _ ext rh2 (.tup (nl _ big).1 (nl _ big).2 (at_ _ List.mem_cons_self big) (by rw [List.length_map, lps]; exact z) (rds_pairs (rs.ext ext) p2 fun p hp => ?_))⟩
  have hb : s.heap.objs.size ≤ p.1 := Nat.le_of_lt (Nat.lt_trans (Nat.lt_succ_self _) (p3 p hp).1)
  exact ⟨(nl _ hb).1, (nl _ hb).2, at_ p (List.mem_cons_of_mem _ hp) hb⟩
end
end PV
end

section
set_option maxRecDepth 100000
namespace PV
open L2 PySem PySem.Spec PyProof.Rows
section
variable {X : Cx} {e x a b tg : Expr} {p pa pb pc : P} {pos np cpos apos : Pos} {K : PySem.W.Frag} {J : Jn} {H : Hp} {h : Hh} {es : List Expr} {pl : PL} {y : Str}

theorem lcLoop_lst (good : Hh → Bool) (turn : D → Hh → R (Option D)) : ∀ (xs acc : List D) (h : Hh) (d : D) (h' : Hh), lcLoop good turn xs acc h = .ok d h' → ∃ ds, d = .lst ds
  | [], acc, h, d, h', e => by
    unfold lcLoop at e
    split at e
    · cases e; exact ⟨_, rfl⟩
    · cases e
  | x :: xs, acc, h, d, h', e => by
    unfold lcLoop at e
    split at e
    · split at e
      · exact lcLoop_lst good turn xs _ _ d h' e
      · exact lcLoop_lst good turn xs _ _ d h' e
      · cases e
    · cases e
theorem lc_lst {f : Env → Hh → R Src} {t : Tg} {pt pe : P} (ρ : Env) (h : Hh) (d : D) (h' : Hh)
    (e : ((f ρ h).bind fun s h1 => if sizeOk s.items.length then lcLoop s.good (lcTurn t pt pe ρ) s.items [] h1 else .bad) = .ok d h') : ∃ ds, d = .lst ds := by
  cases ev : f ρ h with
  | ok s h1 =>
    rw [ev, R.bind_ok] at e
    split at e
    · exact lcLoop_lst _ _ _ _ _ _ _ e
    · cases e
  | bad => rw [ev] at e; cases e
  | err _ _ => rw [ev] at e; cases e

/-! ### an empty dict -/
theorem se_dic0 : SE X (.Dict [] [] pos) (.plain fun _ h => .ok (.ref h.length) (h ++ [.dct []])) := by
  refine SE.plain (pe_dnewK.imp fun σ H Q ⟨ρ, h, J, re, rh, q⟩ => ?_) (fun _ => rfl)
  intro p np
  have rh2 : RH X.K (J.own p) (h ++ [.dct []]) (upd H p (.dK [])) := (rh.hide np).own (rh.notz np) upd_same (.dct (Nat.zero_le _) .nil)
  refine q _ _ _ (Ext.own np (Ext.laid np)) rh2 (.ref ?_)
  show (J.l ++ [p])[h.length]? = some p
  rw [← rh.len, List.getElem?_append_right (Nat.le_refl _)]; simp

/-! ### calls -/
def plainXs : List Expr → Bool
  | [] => true
  | e :: es => plainX e && plainXs es
theorem plainXs_any (pos : Pos) (env : PySem.Env) : ∀ {es : List Expr}, plainXs es = true → (backTo pos (starEach es env)).any (·.1) = false
  | [], _ => rfl
  | e :: es, h => by
    simp only [plainXs, Bool.and_eq_true] at h
    rw [plain_star h.1]
    have := plainXs_any pos env h.2
    unfold backTo at this ⊢
    rw [List.map_cons, List.any_cons, this]; rfl
theorem glb_dbg {c : Cs} (h : c.glb y = true) : (y == ("__debug__" : Str)) = false := by
  simp only [Cs.glb, Bool.and_eq_true, Bool.not_eq_true'] at h; exact h.2
section
variable {c : Cs} {F : Fns} {G : List D} {fn : Fn} {f : Nat}
/-- the callee runs -/
theorem run_g {k : Nat} {fa : Addr} {fd : FuncData} {ps : List Str} {sp : Sp} {pins : List (Addr × Obj)} {σ : L2.St} {H : Hp} {s : Shared} {Q : VK} {args : Args} {us : List Value} {vs : List V} (hF : FnG X.prog X.w X.K X.mg X.base k fa fd ps sp) (hr : Room k X.A) (hgd : X.A.guards = some [])
    (I : L2.Inv X pins σ H s) (hb : BindsTo s fd args (ps.zip us)) (r : Vals vs us) (h : sp vs H Q E0) : wpAny (model X.prog X.w) X.A (PySem.call (.ref fa) args.pos args.kw) (EP X pins σ Q) X.xe s := by
  refine wpAny_call (codeAny_mono (hF.go hr hgd I.env0 hb r h) fun o s' hq => ?_)
  cases o with
  | error e => exact (False.elim hq)
  | ok fl =>
    cases fl with
    | ret u => exact I.after hq
    | next => exact False.elim hq
    | brk => exact False.elim hq
    | cont => exact False.elim hq
theorem se_call (o : Ok c F G X) (hf : c.T[f]? = some fn) (hn : fn.name = y) (hg : c.glb y = true) (hp : plainXs es = true) (h0 : es = [] → pl.l = fun _ h => .ok [] h) (hlen : ∀ ρ h ds h', pl.l ρ h = .ok ds h' → ds.length = fn.P.length) (hl : SEs X es pl) :
    SE X (.Call (.Name y np) es [] pos) (.plain fun ρ h => (pl.l ρ h).bind fun xs h1 => F f xs h1) := by
  obtain ⟨k, hr, hgd, hc⟩ := o.call.ok
  obtain ⟨fa, fd, hm, hk, hF, hb, _⟩ := hc f fn hf
  rw [hn] at hm
  obtain ⟨g1, g2⟩ := glb_ok o hg
  refine SE.plain ⟨fun pins s σ H Q I ⟨ρ, h, J, re, rh, q⟩ => ?_⟩ (fun _ => rfl)
  refine wpAny_Call_Name_kw (ld_glob I g1 hm ?_ g2)
  have run : ∀ {us : List Value} {vs : List V} {J1 : Jn} {h1 : Hh} {H1 : Hp} {s1 : Shared} {ds : List D}, L2.Inv X pins σ H1 s1 → Vals vs us → RH X.K J1 h1 H1 → RDs X.K J1 H1 ds vs → ds.length = fn.P.length → Post X.K J1 H1 (rD X.K) (F f ds h1) Q →
      wpAny (model X.prog X.w) X.A (PySem.call (.ref fa) us) (EP X pins σ Q) X.xe s1 := by
    intro us vs J1 h1 H1 s1 ds I1 r rh1 rs hl1 q1
    have hul : us.length = fn.P.length := by rw [← r.length, ← rs.length]; exact hl1
    have hb1 := hb s1 us I1.kIn (by rw [List.append_nil]; exact hul)
    rw [List.append_nil] at hb1
    exact run_g (args := ⟨us, []⟩) hF hr hgd I1 hb1 r ⟨by rw [← rs.length]; exact hl1, J1, h1, ds, rs, rh1, q1⟩
  cases es with
  | nil =>
    rw [h0 rfl] at q
    exact PySem.W.callWith_K0 I.kIn hk (run (us := []) (ds := []) I .nil rh .nil (hlen [] [] [] [] (by rw [h0 rfl])) q)
  | cons e es =>
    simp only [plainXs, Bool.and_eq_true] at hp
    refine PySem.W.callWith_K (h₀ := X.base) I.ok.mod.kin hk (thn (hl.l.run pos pins s σ H _ I (?_ : tG X.K (rDs X.K) pl.l σ H (fun vs H1 => ∃ J1 h1 ds, RH X.K J1 h1 H1 ∧ RDs X.K J1 H1 ds vs ∧ ds.length = fn.P.length ∧ Post X.K J1 H1 (rD X.K) (F f ds h1) Q))) fun us s1 ⟨vs, H1, I1, r, J1, h1, ds, rh1, rs, hl1, q1⟩ => ⟨I1.kIn, run I1 r rh1 rs hl1 q1⟩) (plain_star hp.1 _ _) (plainXs_any _ _ hp.2)
    refine ⟨ρ, h, J, re, rh, ?_⟩
    dsimp only at q
    cases ev : pl.l ρ h with
    | bad => rw [ev] at q; exact q
    | err _ _ => rw [ev] at q; exact q
    | ok ds h1 =>
      rw [ev, R.bind_ok] at q
      exact fun J1 H1 vs e1 rh1 rs => ⟨J1, h1, ds, rh1, rs, hlen _ _ _ _ ev, Post.ext rh rh1 e1 q⟩

/-! ### calls with keywords -/
def kwNms (kws : List Keyword) : List Str := kws.filterMap (·.arg)
def kwAll (kws : List Keyword) : Bool := kws.all (·.arg.isSome)
theorem kws_facts (pos : Pos) (env : PySem.Env) : ∀ {kws : List Keyword}, kwAll kws = true → (backToKw pos (keywordEach kws env)).all (·.1.isSome) = true ∧ (backToKw pos (keywordEach kws env)).filterMap (·.1) = kwNms kws ∧ (backToKw pos (keywordEach kws env)).any (·.1.isNone) = false
  | [], _ => ⟨rfl, rfl, rfl⟩
  | ⟨nm, e, kp⟩ :: kws, h => by
    simp only [kwAll, List.all_cons, Bool.and_eq_true] at h
    obtain ⟨i1, i2, i3⟩ := kws_facts pos env (kws := kws) h.2
    cases nm with
    | none => cases h.1
    | some nm =>
      refine ⟨?_, ?_, ?_⟩
      · show (true && _) = true
        exact i1
      · exact congrArg (nm :: ·) i2
      · show (false || _) = false
        exact i3
theorem vals_getD : ∀ {vs : List V} {us : List Value} (k : Nat), Vals vs us → RelV (vs.getD k .non) (us.getD k .none)
  | _, _, _, .nil => by simp; rfl
  | _, _, 0, .cons r _ => r
  | _, _, k + 1, .cons _ t => by simpa using vals_getD k t
theorem vals_pm {vs zs : List V} {us ws : List Value} (r : Vals vs us) (z : Vals zs ws) : ∀ pm : List Nat, Vals (pmD .non pm vs zs) (pmD .none pm us ws)
  | [] => .nil
  | k :: pm => .cons (vals_getD k (r.append z)) (vals_pm r z pm)
theorem rds_getD {K : PySem.W.Frag} {J : Jn} {H : Hp} : ∀ {ds : List D} {vs : List V} (k : Nat), RDs K J H ds vs → RD K J H (ds.getD k .non) (vs.getD k .non)
  | _, _, _, .nil => by simp; exact .non
  | _, _, 0, .cons r _ => r
  | _, _, k + 1, .cons _ t => by simpa using rds_getD k t
theorem rds_pm {K : PySem.W.Frag} {J : Jn} {H : Hp} {ds es : List D} {vs ws : List V} (r : RDs K J H ds vs) (z : RDs K J H es ws) : ∀ pm : List Nat, RDs K J H (pmD .non pm ds es) (pmD .non pm vs ws)
  | [] => .nil
  | k :: pm => .cons (rds_getD k (r.append z)) (rds_pm r z pm)
theorem pm_len {α : Type} {d : α} {pm : List Nat} {xs ys : List α} : (pmD d pm xs ys).length = pm.length := by simp [pmD]
theorem se_callK {kws : List Keyword} {pk : PL} {n : Nat} {pm : List Nat} (o : Ok c F G X) (hf : c.T[f]? = some fn) (hn : fn.name = y) (hg : c.glb y = true) (hp : plainXs es = true) (hq : (n, kwNms kws, pm) ∈ fn.kw) (h0 : es = [] → pl.l = fun _ h => .ok [] h)
    (hlen : ∀ ρ h ds h', pl.l ρ h = .ok ds h' → ds.length = n) (hkl : ∀ ρ h ds h', pk.l ρ h = .ok ds h' → ds.length = (kwNms kws).length) (hka : kwAll kws = true) (hl : SEs X es pl) (hk : SEs X (kws.map (·.value)) pk) :
    SE X (.Call (.Name y np) es kws pos) (.plain fun ρ h => (pl.l ρ h).bind fun xs h1 => (pk.l ρ h1).bind fun ys h2 => F f (pmD .non pm xs ys) h2) := by
  obtain ⟨k, hr, hgd, hc⟩ := o.call.ok
  obtain ⟨fa, fd, hm, hkp, hF, hb, hkw⟩ := hc f fn hf
  have hkw := hkw _ hq
  rw [hn] at hm
  obtain ⟨g1, g2⟩ := glb_ok o hg
  obtain ⟨k1, k2, k3⟩ := kws_facts pos X.env hka
  refine SE.plain ⟨fun pins s σ H Q I ⟨ρ, h, J, re, rh, q⟩ => ?_⟩ (fun _ => rfl)
  refine wpAny_Call_Name_kw (ld_glob I g1 hm ?_ g2)
  -- the keywords and the call
  have tail : ∀ {us : List Value} {vs : List V} {J1 : Jn} {h1 : Hh} {H1 : Hp} {s1 : Shared} {ds : List D}, Inv X pins σ H1 s1 → Vals vs us → RE X.K J1 H1 ρ σ → RH X.K J1 h1 H1 → RDs X.K J1 H1 ds vs → vs.length = n →
      Post X.K J1 H1 (rD X.K) ((pk.l ρ h1).bind fun ys h2 => F f (pmD .non pm ds ys) h2) Q →
      wpAny (model X.prog X.w) X.A (evalAll ((backToKw pos (keywordEach kws X.env)).map (·.2))) (fun ks s₂ => X.K.In s₂.heap ∧ wpAny (model X.prog X.w) X.A (PySem.call (.ref fa) us (((backToKw pos (keywordEach kws X.env)).filterMap (·.1)).zip ks)) (EP X pins σ Q) X.xe s₂) X.xe s1 := by
    intro us vs J1 h1 H1 s1 ds I1 r re1 rh1 rs hl1 q1
    have hd : tG X.K (rDs X.K) pk.l σ H1 (fun zs H2 => zs.length = (kwNms kws).length ∧ ∃ J2 h2 es, RDs X.K J2 H2 (pmD .non pm ds es) (pmD .non pm vs zs) ∧ RH X.K J2 h2 H2 ∧ Post X.K J2 H2 (rD X.K) (F f (pmD .non pm ds es) h2) Q) := by
      refine ⟨ρ, h1, J1, re1, rh1, ?_⟩
      cases ev : pk.l ρ h1 with
      | bad => rw [ev] at q1; exact q1
      | err _ _ => rw [ev] at q1; exact q1
      | ok es h2 =>
        rw [ev, R.bind_ok] at q1
        intro J2 H2 zs e2 rh2 rz
        exact ⟨by rw [← rz.length]; exact hkl _ _ _ _ ev, J2, h2, es, rds_pm (rs.ext e2) rz pm, rh2, Post.ext rh1 rh2 e2 q1⟩
    refine thn ((hk.kw kws rfl).run pos pins s1 σ H1 _ I1 hd) fun ws s2 ⟨zs, H2, I2, rz, hzl, J2, h2, es, rr, rh2, q2⟩ => ⟨I2.kIn, ?_⟩
    rw [k2]
    refine run_g (args := ⟨us, (kwNms kws).zip ws⟩) hF hr hgd I2 (hkw.to s2 us ws I2.kIn ?_ ?_) (vals_pm r rz pm) ⟨?_, J2, h2, _, rr, rh2, q2⟩
    · rw [← r.length]; exact hl1
    · rw [← rz.length]; exact hzl
    · rw [pm_len, hkw.len]
  cases es with
  | nil =>
    rw [h0 rfl] at q
    refine PySem.W.callWith_KW0 (h₀ := X.base) I.ok.mod.kin hkp k1 (tail I .nil re rh .nil ?_ q) (by rw [k3]; rfl)
    have := hlen [] [] [] [] (by rw [h0 rfl])
    exact this
  | cons e es =>
    have hp' := hp
    simp only [plainXs, Bool.and_eq_true] at hp'
    refine PySem.W.callWith_KW (h₀ := X.base) I.ok.mod.kin hkp k1 (thn (hl.l.run pos pins s σ H _ I (?_ : tG X.K (rDs X.K) pl.l σ H (fun vs H1 => vs.length = n ∧ ∃ J1 h1 ds, RE X.K J1 H1 ρ σ ∧ RH X.K J1 h1 H1 ∧ RDs X.K J1 H1 ds vs ∧ Post X.K J1 H1 (rD X.K) ((pk.l ρ h1).bind fun ys h2 => F f (pmD .non pm ds ys) h2) Q))) fun us s1 ⟨vs, H1, I1, r, hvl, J1, h1, ds, re1, rh1, rs, q1⟩ => tail I1 r re1 rh1 rs hvl q1) (by rw [plainXs_any pos X.env hp, k3]; rfl) (plain_star hp'.1 _ _)
    refine ⟨ρ, h, J, re, rh, ?_⟩
    dsimp only at q
    cases ev : pl.l ρ h with
    | bad => rw [ev] at q; exact q
    | err _ _ => rw [ev] at q; exact q
    | ok ds h1 =>
      rw [ev, R.bind_ok] at q
      intro J1 H1 vs e1 rh1 rs
      exact ⟨by rw [← rs.length]; exact hlen _ _ _ _ ev, J1, h1, ds, re.ext e1, rh1, rs, Post.ext rh rh1 e1 q⟩

/-! ### built-in functions -/
def bfNm : Bf → Str
  | .len => "len" | .int => "int" | .abs => "abs" | .tuple => "tuple" | .list => "list" | .max2 => "max" | .min2 => "min" | .sum => "sum" | .all => "all" | .any => "any" | .sorted => "sorted" | .repr => "repr"
theorem bf_do {σ : L2.St} {H : Hp} {Q : VK} {f : Hh → List D → Option D} (t : tG X.K (rD X.K) (fun ρ h => (pl.l ρ h).bind fun xs h1 => R.opt (f h1 xs) h1) σ H Q) : tCB (rBf X.K f) (tG X.K (rDs X.K) pl.l) σ H Q := by
  obtain ⟨ρ, h, J, re, rh, q⟩ := t
  refine (Post.step (R1 := rDs X.K) (f := pl.l) re rh q).mono fun xs H1 ⟨J1, h1, ds, e1, re1, rh1, rs, q1⟩ => ?_
  obtain ⟨d, hd, q2⟩ := Post.optX q1
  exact ⟨J1, h1, ds, d, rh1, rs, hd, q2⟩
theorem se_bfB {id : String} {f : Hh → List D → Option D} (hc : CallR X (.builtin id) (rBf X.K f)) (hb : bootBuiltins y = some (.builtin id)) (hn : y ≠ "__name__") (o : Ok c F G X) (hm : y ∈ c.bs) (hg : c.glb y = true) (he : plainXs (e :: es) = true) (hl : SEs X (e :: es) pl) :
    SE X (.Call (.Name y np) (e :: es) [] pos) (.plain fun ρ h => (pl.l ρ h).bind fun xs h1 => R.opt (f h1 xs) h1) := by
  simp only [plainXs, Bool.and_eq_true] at he
  exact SE.plain ((pe_callB hc (glb_ok o hg).1 (o.blt y hm) hb hl.l hn (glb_ok o hg).2 (plain_star he.1 _ _) (plainXs_any _ _ he.2)).imp fun σ H Q t => bf_do t) (fun _ => rfl)
theorem se_bfT {id : String} {f : Hh → List D → Option D} (hc : CallR X (.type id) (rBf X.K f)) (hb : bootBuiltins y = some (.type id)) (hn : y ≠ "__name__") (o : Ok c F G X) (hm : y ∈ c.bs) (hg : c.glb y = true) (he : plainXs (e :: es) = true) (hl : SEs X (e :: es) pl) :
    SE X (.Call (.Name y np) (e :: es) [] pos) (.plain fun ρ h => (pl.l ρ h).bind fun xs h1 => R.opt (f h1 xs) h1) := by
  simp only [plainXs, Bool.and_eq_true] at he
  exact SE.plain ((pe_callTy hc (glb_ok o hg).1 (o.blt y hm) hb hl.l hn (glb_ok o hg).2 (plain_star he.1 _ _) (plainXs_any _ _ he.2)).imp fun σ H Q t => bf_do t) (fun _ => rfl)
def bfOn : Bf → Bool
  | .list => false | .sorted => false
  | _ => true
theorem se_bf {f : Bf} (hf : bfOn f = true) (o : Ok c F G X) (hm : bfNm f ∈ c.bs) (hg : c.glb (bfNm f) = true) (he : plainXs (e :: es) = true) (hl : SEs X (e :: es) pl) :
    SE X (.Call (.Name (bfNm f) np) (e :: es) [] pos) (.plain fun ρ h => (pl.l ρ h).bind fun xs h1 => R.opt (opBf f h1 xs) h1) := by
  cases f with
  | len => exact se_bfB bf_len rfl (by decide) o hm hg he hl
  | int => exact se_bfT bf_int rfl (by decide) o hm hg he hl
  | abs => exact se_bfB bf_abs rfl (by decide) o hm hg he hl
  | tuple => exact se_bfT bf_tuple rfl (by decide) o hm hg he hl
  | max2 => exact se_bfB (bf_max o.calm) rfl (by decide) o hm hg he hl
  | min2 => exact se_bfB (bf_min o.calm) rfl (by decide) o hm hg he hl
  | sum => exact se_bfB (bf_sum o.calm) rfl (by decide) o hm hg he hl
  | all => exact se_bfB (bf_all o.calm) rfl (by decide) o hm hg he hl
  | any => exact se_bfB (bf_any o.calm) rfl (by decide) o hm hg he hl
  | repr => exact se_bfB (bf_repr o.units o.guards) rfl (by decide) o hm hg he hl
  | _ => cases hf
/-- list(x): a new list -/
theorem se_listF (o : Ok c F G X) (hm : ("list" : Str) ∈ c.bs) (hg : c.glb "list" = true) (he : plainXs (e :: es) = true) (hl : SEs X (e :: es) pl) :
    PE X (.Call (.Name "list" np) (e :: es) [] pos) (tF X.K fun ρ h => (pl.l ρ h).bind fun xs h1 => R.opt (opBf .list h1 xs) h1) := by
  simp only [plainXs, Bool.and_eq_true] at he
  refine (pe_callTy bf_list (glb_ok o hg).1 (o.blt _ hm) rfl hl.l (by decide) (glb_ok o hg).2 (plain_star he.1 _ _) (plainXs_any _ _ he.2)).imp fun σ H Q ⟨ρ, h, J, re, rh, q⟩ => ?_
  refine ⟨ρ, h, J, re, rh, ?_⟩
  dsimp only at q
  cases ev : pl.l ρ h with
  | bad => rw [ev] at q; exact False.elim q
  | err _ _ => rw [ev] at q; exact False.elim q
  | ok ds h1 =>
    rw [ev, R.bind_ok] at q
    intro J1 H1 vs e1 rh1 rs
    have hb : opBf .list h1 ds = bfList h1 ds := rfl
    rw [hb] at q
    cases ed : bfList h1 ds with
    | none => rw [ed] at q; exact False.elim q
    | some d =>
      rw [ed] at q
      refine ⟨J1, h1, ds, d, rh1, rs, ed, fun p ys ws hd np hz rr => ?_⟩
      subst hd
      refine q (J1.hide p) _ p ws ⟨rfl, e1.pre, fun a o n q => by rw [upd_ne (ne_of_none (e1.keep a o n q) np)]; exact e1.keep a o n q⟩ ?_ (rh1.hide np) upd_same hz ((rr.sub (Sub.hide np)).ext (Ext.laid np)) ?_
      · show p :: J1.z = p :: J.z; rw [e1.z]
      · cases hp : H p with
        | none => rfl
        | some u =>
          exfalso
          by_cases n : p ∈ J.l
          · obtain ⟨m, hm, _⟩ := e1.pre
            obtain ⟨u', h2⟩ := rh1.inl (a := p) (by rw [hm]; exact List.mem_append_left _ n)
            rw [np] at h2; cases h2
          · have := e1.keep p u n hp; rw [np] at this; cases this
theorem se_list (o : Ok c F G X) (hm : ("list" : Str) ∈ c.bs) (hg : c.glb "list" = true) (he : plainXs (e :: es) = true) (hl : SEs X (e :: es) pl) :
    SE X (.Call (.Name "list" np) (e :: es) [] pos) (.plain fun ρ h => (pl.l ρ h).bind fun xs h1 => R.opt (opBf .list h1 xs) h1) := by
  refine SE.plain (tF_val (se_listF o hm hg he hl) fun ρ h d h' e => ?_) (fun _ => rfl)
  cases ev : pl.l ρ h with
  | bad => rw [ev] at e; cases e
  | err _ _ => rw [ev] at e; cases e
  | ok ds h1 =>
    rw [ev, R.bind_ok] at e
    have hb : opBf .list h1 ds = bfList h1 ds := rfl
    rw [hb] at e
    unfold bfList at e
    split at e
    · rename_i x
      cases es : x.seq h1 with
      | none => rw [es] at e; cases e
      | some ys => rw [es] at e; cases e; exact ⟨_, rfl⟩
    · cases e

/-! ### isinstance -/
def tyNm : Ty → Str
  | .int => "int" | .str => "str" | .tup => "tuple" | .lst => "list" | .bl => "bool" | .dct => "dict" | .non => "NoneType"
theorem tyNm_boot (t : Ty) (ht : t ≠ .non) : bootBuiltins (tyNm t) = some (.type t.nm) := by cases t <;> first | rfl | exact absurd rfl ht
theorem se_isi {t : Ty} {ty : Str} {tp : Pos} (ht : t ≠ .non) (hty : ty = tyNm t) (o : Ok c F G X) (hm : ("isinstance" : Str) ∈ c.bs) (hg : c.glb "isinstance" = true) (hm2 : ty ∈ c.bs) (hg2 : c.glb ty = true) (hp : plainX a = true) (ha : SE X a pa) :
    SE X (.Call (.Name "isinstance" np) [a, .Name ty tp] [] pos) (.plain fun ρ h => (pa.v ρ h).bind fun x h1 => .ok (.bl (opIsi t h1 x)) h1) := by
  subst hty
  refine SE.plain ((pe_callB (isi_ops (t := t)) (glb_ok o hg).1 (o.blt _ hm) rfl (pa_cons ha.v (pa_cons (pe_bltn (v := .ty t.nm) (glb_ok o hg2).1 (o.blt _ hm2) (tyNm_boot t ht) rfl (by cases t <;> decide) (glb_ok o hg2).2) pa_nil) (plain_star hp _ _)) (by decide) (glb_ok o hg).2 (plain_star hp _ _) rfl).imp fun σ H Q ⟨ρ, h, J, re, rh, q⟩ => ?_) (fun _ => rfl)
  refine (Post.step (R1 := rD X.K) (f := pa.v) re rh q).mono fun x H1 ⟨J1, h1, dx, e1, re1, rh1, rx, q1⟩ => ?_
  exact ⟨J1, h1, dx, x, rh1, rx, rfl, q1 J1 H1 _ Ext.refl rh1 (.bl _)⟩

/-! ### methods -/
def mtNm : Mt → Str
  | .append => "append" | .pop => "pop" | .popAt => "pop" | .index => "index" | .count => "count"
theorem isL_ty {K : PySem.W.Frag} {J : Jn} {H : Hp} {h : Hh} {d : D} {v : V} (rh : RH K J h H) (r : RD K J H d v) (e : d.isL h = true) : tyV K "list" v H := by
  cases r with
  | lst n m q z rr => exact .inl ⟨rfl, _, .inl (.inl q)⟩
  | fz n m q z rr => exact .inl ⟨rfl, _, .inl (.inr ⟨_, q⟩)⟩
  | kfz k z rr => exact .inl ⟨rfl, _, .inr k⟩
  | ref q =>
    obtain ⟨o, u, h1, h2, h3⟩ := rh.at q
    simp only [D.isL, h1] at e
    cases h3 with
    | lst z rr => exact .inl ⟨rfl, _, .inl (.inl h2)⟩
    | dct z rr => cases e
  | _ => cases e
theorem mth_do {r : V → List V → Hp → VK → Prop} {m : Mt} {ol : PL} {σ : L2.St} {H : Hp} {Q : VK} (hr : ∀ x xs H Q, rMt X.K m x xs H Q → r x xs H Q)
    (t : tG X.K (rD X.K) (fun ρ h => (pa.v ρ h).bind fun x h1 => if x.isL h1 then (ol.l ρ h1).bind fun xs h2 => mthOp m x xs h2 else .bad) σ H Q) : tBM X.K "list" r (tG X.K (rD X.K) pa.v) (tG X.K (rDs X.K) ol.l) σ H Q := by
  obtain ⟨ρ, h, J, re, rh, q⟩ := t
  refine (Post.step (R1 := rD X.K) (f := pa.v) re rh q).mono fun x H1 ⟨J1, h1, dx, e1, re1, rh1, rx, q1⟩ => ?_
  cases hx : dx.isL h1 with
  | false => rw [hx] at q1; exact False.elim q1
  | true =>
    rw [hx] at q1
    simp only [if_true] at q1
    refine ⟨isL_ty rh1 rx hx, ?_⟩
    refine (Post.step (R1 := rDs X.K) (f := ol.l) re1 rh1 q1).mono fun xs H2 ⟨J2, h2, ds, e2, re2, rh2, rs, q2⟩ => hr _ _ _ _ ?_
    cases ev : mthOp m dx ds h2 with
    | bad => rw [ev] at q2; exact False.elim q2
    | err _ _ => rw [ev] at q2; exact False.elim q2
    | ok d h3 => rw [ev] at q2; exact ⟨J2, h2, dx, ds, d, h3, rh2, rx.ext e2, rs, ev, q2⟩
def mtOn : Mt → Bool
  | .append => true | .pop => true | .popAt => true
  | _ => false
def baseX : Expr → Bool
  | .Call .. => false
  | _ => true
theorem base_of {a : Expr} {m : Str} {env : PySem.Env} {w : Sem Value} (h : baseX a = true) : attributeBase a m env w = w := by cases a <;> first | rfl | cases h
theorem few_of (cpos : Pos) (env : PySem.Env) {es : List Expr} (h : plainXs es = true) (hl : es.length < 30) : ((backTo cpos (starEach es env)).all (fun x => !x.1) && (backToKw cpos (keywordEach [] env)).all (fun x => x.1.isSome)
      && decide (es.length + ([] : List Keyword).length + (if ([] : List Keyword).isEmpty then 0 else 1) < 30)) = true := by
  have h1 : (backTo cpos (starEach es env)).all (fun x => !x.1) = true := by
    have := plainXs_any cpos env h
    rw [List.any_eq_false] at this
    rw [List.all_eq_true]
    intro x hx
    have := this x hx
    simpa using this
  rw [h1]
  simp only [Bool.true_and, Bool.and_eq_true, decide_eq_true_eq]
  exact ⟨rfl, by simpa using hl⟩
theorem se_mth {m : Mt} {es : List Expr} (hm : mtOn m = true) (hx : baseX a = true) (hline : (apos.endLine == cpos.line) = true) (hp : plainXs es = true) (hlen : es.length < 30) (h0 : es = [] → pl.l = fun _ h => .ok [] h) (ha : SE X a pa) (hl : SEs X es pl) :
    SE X (.Call (.Attribute a (mtNm m) apos) es [] cpos) (.plain fun ρ h => (pa.v ρ h).bind fun x h1 => if x.isL h1 then (pl.l ρ h1).bind fun xs h2 => mthOp m x xs h2 else .bad) := by
  have gen : ∀ {id : String} {r : V → List V → Hp → VK → Prop}, Slot "list" (mtNm m) id → typeOf (.builtin id) = pure (.type "method_descriptor") → MtR X id r → (∀ x xs H Q, rMt X.K m x xs H Q → r x xs H Q) →
      SE X (.Call (.Attribute a (mtNm m) apos) es [] cpos) (.plain fun ρ h => (pa.v ρ h).bind fun x h1 => if x.isL h1 then (pl.l ρ h1).bind fun xs h2 => mthOp m x xs h2 else .bad) := by
    intro id r slot hty hmt hr
    refine SE.plain ?_ (fun _ => rfl)
    cases es with
    | nil =>
      refine (pe_bm0 PySem.F.plainAttrs_list slot hty hmt ha.v (base_of hx) hline).imp fun σ H Q t => ?_
      refine (mth_do hr t).mono fun x H1 ⟨ty, ρ, h, J, re, rh, q⟩ => ⟨ty, ?_⟩
      rw [h0 rfl] at q
      exact q J H1 [] Ext.refl rh .nil
    | cons e es =>
      have hp' := hp
      simp only [plainXs, Bool.and_eq_true] at hp'
      exact (pe_bm PySem.F.plainAttrs_list slot hty hmt ha.v hl.l (base_of hx) (few_of _ _ hp hlen) hline (plain_star hp'.1 _ _) (plainXs_any _ _ hp'.2)).imp fun σ H Q t => mth_do hr t
  cases m with
  | append => exact gen PySem.F.slot_list_append rfl mt_appendD fun _ _ _ _ z => z
  | pop => exact gen PySem.F.slot_list_pop rfl mt_popD fun _ _ _ _ z => .inl z
  | popAt => exact gen PySem.F.slot_list_pop rfl mt_popD fun _ _ _ _ z => .inr z
  | _ => cases hm

/-! ### tuple(enumerate(a tuple)) -/
theorem se_tenum {ep : Pos} {cp : Pos} (o : Ok c F G X) (hm : ("tuple" : Str) ∈ c.bs) (hg : c.glb "tuple" = true) (hm2 : ("enumerate" : Str) ∈ c.bs) (hg2 : c.glb "enumerate" = true) (hp : plainX a = true) (ha : SE X a pa) :
    SE X (.Call (.Name "tuple" np) [.Call (.Name "enumerate" ep) [a] [] cp] [] pos) (.plain fun ρ h => (pa.v ρ h).bind fun x h1 => R.opt (tenumOp x) h1) := by
  refine SE.plain ⟨fun pins s σ H Q I ⟨ρ, h, J, re, rh, q⟩ => ?_⟩ (fun _ => rfl)
  refine wpAny_Call_Name_kw (ld_blt I (glb_ok o hg).1 (o.blt _ hm) rfl (PyProof.Rows.callWith_type1 ?_ rfl rfl) (by decide) (glb_ok o hg).2)
  show wpAny _ _ (spliced [(false, eval (.Call (.Name "enumerate" ep) [a] [] cp) X.env)]) _ _ s
  refine Calls.spliced_cons ?_
  refine wpAny_Call_Name_kw (ld_blt I (glb_ok o hg2).1 (o.blt _ hm2) rfl (PyProof.Rows.callWith_type1 ?_ (plain_star hp _ _) rfl) (by decide) (glb_ok o hg2).2)
  have step : tCons (tG X.K (rD X.K) pa.v) tNil σ H (fun xs H1 => ∃ y, xs = [y] ∧ ∃ J1 h1 dx, Ext J H J1 H1 ∧ RE X.K J1 H1 ρ σ ∧ RH X.K J1 h1 H1 ∧ RD X.K J1 H1 dx y ∧ Post X.K J1 H1 (rD X.K) (R.opt (tenumOp dx) h1) Q) :=
    (Post.step (R1 := rD X.K) (f := pa.v) re rh q).mono fun b H1 z => ⟨b, rfl, z⟩
  refine thn ((pa_cons ha.v pa_nil (plain_star hp _ _)).run cp pins s σ H _ I step) fun us s1 ⟨xs, H1, I1, r1, y, ex, J1, h1, dx, e1, re1, rh1, rx, q1⟩ => ?_
  subst ex
  obtain ⟨u, rfl, ru⟩ : ∃ u, us = [u] ∧ L2.RelV y u := by
    cases r1 with | cons p t => cases t; exact ⟨_, rfl, p⟩
  cases ht : tenumOp dx with
  | none => rw [ht] at q1; exact False.elim q1
  | some d =>
    rw [ht] at q1
    unfold tenumOp at ht
    split at ht
    · rename_i ds
      split at ht
      · cases ht
        obtain ⟨a0, vs0, ey, _⟩ := rx.tup_inv
        subst ey
        cases (show u = Value.ref a0 from ru)
        refine thn (tenum_run o.calm I1 rh1 rx fun J' H' v e2 rh2 rv => q1 J' H' v e2 rh2 rv) fun ev s2 hv => Calls.spliced_nil hv
      · cases ht
    · cases ht
end
end
end PV
end

section
set_option maxRecDepth 100000
namespace PV
open L2 PySem PySem.Spec PyProof.Rows

/-! ### a text read as E -/
def relabelS (scope sc : Scope) : Scope :=
  { scope with names := scope.names.map fun (n, k) =>
      if (k == .free && sc.kind == .function && sc.names.lookup n == some .cell) then (n, .cell) else (n, k) }
def Cs.blk (c : Cs) (scope : Scope) : Cs := { c with sc := relabelS scope c.sc, fn := fun x => scope.names.lookup x == some .cell }
def Cs.own (c : Cs) (t : Tg) : List (Str × Nat) := t.slots.map fun i => (c.N.getD i "", i)
def Cs.blt (c : Cs) (x : Str) : Bool := decide (x ∈ c.bs) && c.glb x
/-- a name that is set -/
def mV (c : Cs) (i : Nat) (x : Expr) : Bool := match asName x with
  | some y => c.loc i y
  | none => false
def mVs (c : Cs) : List Nat → List Expr → Bool
  | [], [] => true
  | i :: is, x :: xs => mV c i x && mVs c is xs
  | _, _ => false
def mT (c : Cs) : Tg → Expr → Bool
  | .v i, x => mV c i x
  | .tu is, x => match asTup x with
    | some xs => mVs c is xs
    | none => false
mutual
def mE (c : Cs) : E → Expr → Bool
  | .var i, x => match asName x with | some y => c.vis i y | none => false
  | .con d, x => match asCon x with | some k => conM d k | none => false
  | .glo i, x => match asName x with | some y => decide (c.gn[i]? = some y) && c.glb y | none => false
  | .miss, _ => false
  | .tup es, x => match asTup x with | some xs => mEs c es xs | none => false
  | .lst es, x => match asLst x with | some xs => mEs c es xs | none => false
  | .new e, x => mF c e x
  | .dic0, x => asDic0 x
  | .bin o a b, x => match asBin x with | some (y, p, z) => bopM o p && mE c a y && mE c b z | none => false
  | .neg a, x => match asUn x with | some (.USub, y) => mE c a y | _ => false
  | .cmp o a b, x => match asCmp1 x with | some (y, p, z) => copM o p && plainX z && mE c a y && mE c b z | none => false
  | .chain o o' a b d, x => match asCmp2 x with | some (y, p, p', z, w) => copM o p && copM o' p' && plainX w && mE c a y && mE c b z && mE c d w | none => false
  | .and a r, x => match asBool x with | some (.And, y, ys) => mE c a y && mEs c r ys && !ys.isEmpty | _ => false
  | .or a r, x => match asBool x with | some (.Or, y, ys) => mE c a y && mEs c r ys && !ys.isEmpty | _ => false
  | .not a, x => match asUn x with | some (.Not, y) => mE c a y | _ => false
  | .ite t a b, x => match asIf x with | some (w, y, z) => mE c t w && mE c a y && mE c b z | none => false
  | .idx a i, x => match asSub x with | some (y, z) => plainX z && mE c a y && mE c i z | none => false
  | .slc a lo hi, x => match asSub x with
    | some (y, z) => match asSlc z with
      | some (l, u) => mE c a y && (match l with | none => lo.isMiss | some l => !lo.isMiss && mE c lo l) && (match u with | none => hi.isMiss | some u => !hi.isMiss && mE c hi u)
      | none => false
    | none => false
  | .call f es, x => match asCall x with
    | some (y, xs) => match c.T[f]? with
      | some fn => decide (fn.name = y) && decide (fn.P.length = xs.length) && c.glb y && plainXs xs && mEs c es xs
      | none => false
    | none => false
  | .callK f es kes pm, x => match asCallK x with
    | some (y, xs, kws) => match c.T[f]? with
      | some fn => decide (fn.name = y) && decide ((xs.length, kwNms kws, pm) ∈ fn.kw) && kwAll kws && decide ((kwNms kws).length = kws.length) && c.glb y && plainXs xs && mEs c es xs && mEs c kes (kws.map (·.value))
      | none => false
    | none => false
  | .bf f es, x => match asCall x with
    | some (y, xs) => decide (y = bfNm f) && c.blt y && !xs.isEmpty && plainXs xs && mEs c es xs && (bfOn f || match f with | .list => true | _ => false)
    | none => false
  | .isi a t, x => match asIsi x with
    | some (f, y, ty) => decide (f = "isinstance") && (match t with | .non => false | _ => true) && decide (ty = tyNm t) && c.blt f && c.blt ty && plainX y && mE c a y
    | none => false
  | .mth m o es, x => match asMth x with
    | some (y, nm, xs) => decide (nm = mtNm m) && mtOn m && baseX y && plainXs xs && decide (xs.length < 30) && mE c o y && mEs c es xs
    | none => false
  | .lc t it d e, x => match asLc x with
    | some (elt, tg, iter, ifs, scope) => blkC c.N c.sc scope (c.own t) && mI c it tg iter && plainX iter && mT (c.blk scope) t tg && mE (c.blk scope) e elt && (match ifs with
      | [] => d.isMiss
      | [i] => mE (c.blk scope) d i
      | _ => false)
    | none => false
  | .tenum a, x => match asTenum x with
    | some (f, g, y) => decide (f = "tuple") && decide (g = "enumerate") && c.blt f && c.blt g && plainX y && mE c a y
    | none => false
def mF (c : Cs) : E → Expr → Bool
  | .lst es, x => match asLst x with | some xs => mEs c es xs | none => false
  | .bf .list es, x => match asCall x with
    | some (y, xs) => decide (y = "list") && c.blt y && !xs.isEmpty && plainXs xs && mEs c es xs
    | none => false
  | .lc t it d e, x => match asLc x with
    | some (elt, tg, iter, ifs, scope) => blkC c.N c.sc scope (c.own t) && mI c it tg iter && plainX iter && mT (c.blk scope) t tg && mE (c.blk scope) e elt && (match ifs with
      | [] => d.isMiss
      | [i] => mE (c.blk scope) d i
      | _ => false)
    | none => false
  | _, _ => false
def mEs (c : Cs) : Es → List Expr → Bool
  | .nil, [] => true
  | .cons e es, x :: xs => plainX x && mE c e x && mEs c es xs
  | _, _ => false
def mI (c : Cs) : I → Expr → Expr → Bool
  | .ev e, _, x => mE c e x
  | .rng n, _, x => match asCall x with
    | some (f, [y]) => decide (f = "range") && c.blt f && plainX y && mE c n y
    | _ => false
  | .rng2 a b, _, x => match asCall x with
    | some (f, [y, z]) => decide (f = "range") && c.blt f && plainX y && plainX z && mE c a y && mE c b z
    | _ => false
  | .zip a b, tg, x => match asCall x with
    | some (f, [y, z]) => decide (f = "zip") && c.blt f && plainX y && plainX z && mE c a y && mE c b z && (asTup tg).isSome
    | _ => false
  | .enum _, _, _ => false
end
end PV
end

section
set_option maxRecDepth 100000
namespace PV
open L2 PySem PySem.Spec PyProof.Rows
section
variable {c : Cs} {F : Fns} {G : List D} {X : Cx}
theorem Ok.blk (o : Ok c F G X) {s : Shared} {H : Hp} {scope : Scope} {cl : List (Str × Addr)} {C : Addr} {fp : List Addr} : Ok (c.blk scope) F G (X.blk s H scope (compEnvC scope cl C X.env) fp) where
  hN := o.hN
  nd := o.nd
  sc := by
    show relabel scope X.env = relabelS scope c.sc
    unfold relabel relabelS PySem.Env.kindOf
    rw [o.sc]
  fn := rfl
  calm := o.calm
  call := ⟨o.call.ok⟩
  blt := o.blt
  glo := o.glo
theorem blt_ok {y : Str} (h : c.blt y = true) : y ∈ c.bs ∧ c.glb y = true := by
  simp only [Cs.blt, Bool.and_eq_true, decide_eq_true_eq] at h; exact h
theorem own_snd (t : Tg) : (c.own t).map (·.2) = t.slots := by simp [Cs.own, Function.comp_def]
theorem sv_ok {i : Nat} {x : Expr} (o : Ok c F G X) (h : mV c i x = true) : ∃ y p, x = .Name y p ∧ X.N[i]? = some y ∧ L2.Loc X.env.scope y ∧ (X.fn y = true ∨ X.env.scope.names.lookup y = some .local) := by
  unfold mV at h
  split at h
  · rename_i y hy
    obtain ⟨p, rfl⟩ := asName_eq hy
    obtain ⟨h1, h2, h3⟩ := loc_ok o h
    exact ⟨y, p, rfl, h1, h2, h3⟩
  · cases h
theorem svs_ok (o : Ok c F G X) : ∀ {is : List Nat} {xs : List Expr}, mVs c is xs = true → STs X xs is
  | [], [], _ => sts_nil
  | [], _ :: _, h => by cases h
  | _ :: _, [], h => by cases h
  | i :: is, x :: xs, h => by
    simp only [mVs, Bool.and_eq_true] at h
    obtain ⟨y, p, rfl, h1, h2, h3⟩ := sv_ok o h.1
    exact sts_cons o.nd h1 h2 h3 (svs_ok o h.2)
theorem st_ok (o : Ok c F G X) {t : Tg} {x : Expr} (h : mT c t x = true) : ST X x t t.slots := by
  cases t with
  | v i =>
    obtain ⟨y, p, rfl, h1, h2, h3⟩ := sv_ok o (show mV c i x = true from h)
    exact st_v o.nd h1 h2 h3
  | tu is =>
    simp only [mT] at h
    split at h
    · rename_i xs hx
      obtain ⟨k, p, rfl⟩ := asTup_eq hx
      exact st_tu o.calm (svs_ok o h)
    · cases h
def Es.len : Es → Nat
  | .nil => 0
  | .cons _ es => es.len + 1
theorem es_len : ∀ (es : Es) (ρ : Env) (h : Hh) (ds : List D) (h' : Hh), (evEs F G es).l ρ h = .ok ds h' → ds.length = es.len
  | .nil, ρ, h, ds, h', e => by cases e; rfl
  | .cons a es, ρ, h, ds, h', e => by
    have e : ((evE F G a).v ρ h).bind (fun x h1 => ((evEs F G es).l ρ h1).bind fun xs h2 => .ok (x :: xs) h2) = .ok ds h' := e
    cases e1 : (evE F G a).v ρ h with
    | ok x h1 =>
      rw [e1, R.bind_ok] at e
      cases e2 : (evEs F G es).l ρ h1 with
      | ok xs h2 =>
        rw [e2, R.bind_ok] at e
        cases e
        show xs.length + 1 = es.len + 1
        rw [es_len es _ _ _ _ e2]
      | bad => rw [e2] at e; cases e
      | err _ _ => rw [e2] at e; cases e
    | bad => rw [e1] at e; cases e
    | err _ _ => rw [e1] at e; cases e
theorem mEs_len : ∀ {es : Es} {xs : List Expr}, mEs c es xs = true → es.len = xs.length
  | .nil, [], _ => rfl
  | .nil, _ :: _, h => by cases h
  | .cons _ _, [], h => by cases h
  | .cons e es, x :: xs, h => by
    simp only [mEs, Bool.and_eq_true] at h
    show es.len + 1 = xs.length + 1
    rw [mEs_len h.2]
theorem mEs_nil {es : Es} {xs : List Expr} (h : mEs c es xs = true) : xs = [] → (evEs F G es).l = fun _ h => .ok [] h := by
  rintro rfl
  cases es with
  | nil => rfl
  | cons _ _ => cases h
/-- a list made anew -/
def SF (X : Cx) (x : Expr) (v : Env → Hh → R D) : Prop := PE X x (tF X.K v) ∧ ∀ whole, isTrue x X.env whole = (do let v ← whole; standAt x.pos; holding [v] (truthy v))
mutual
theorem sE : ∀ (t : E) {c : Cs} {X : Cx} (o : Ok c F G X) (x : Expr), mE c t x = true → SE X x (evE F G t)
  | .var i, c, X, o, x, h => by
    simp only [mE] at h
    split at h
    · rename_i y hy
      obtain ⟨p, rfl⟩ := asName_eq hy
      exact se_var o h
    · cases h
  | .con d, c, X, o, x, h => by
    simp only [mE] at h
    split at h
    · rename_i y hy
      obtain ⟨k, p, rfl⟩ := asCon_eq hy
      exact se_con h
    · cases h
  | .glo i, c, X, o, x, h => by
    simp only [mE] at h
    split at h
    · rename_i y hy
      obtain ⟨p, rfl⟩ := asName_eq hy
      (simp only [Bool.and_eq_true, decide_eq_true_eq] at h)
      exact se_glo o h.1 h.2
    · cases h
  | .miss, c, X, o, x, h => by cases h
  | .tup es, c, X, o, x, h => by
    simp only [mE] at h
    split at h
    · rename_i y hy
      obtain ⟨k, p, rfl⟩ := asTup_eq hy
      exact se_tup (sEs es o _ h)
    · cases h
  | .lst es, c, X, o, x, h => by
    simp only [mE] at h
    split at h
    · rename_i y hy
      obtain ⟨p, rfl⟩ := asLst_eq hy
      exact se_lst (sEs es o _ h)
    · cases h
  | .new e, c, X, o, x, h => se_new (sF e o x h).1 (sF e o x h).2
  | .dic0, c, X, o, x, h => by
    obtain ⟨p, rfl⟩ := asDic0_eq h
    exact se_dic0
  | .bin op a b, c, X, o, x, h => by
    simp only [mE] at h
    split at h
    · rename_i y p z hy
      obtain ⟨q, rfl⟩ := asBin_eq hy
      (simp only [Bool.and_eq_true] at h)
      exact se_bin' (bopM_ok h.1.1) (sE a o _ h.1.2) (sE b o _ h.2)
    · cases h
  | .neg a, c, X, o, x, h => by
    simp only [mE] at h
    split at h
    · rename_i y hy
      obtain ⟨q, rfl⟩ := asUn_eq hy
      exact se_neg (sE a o _ h)
    · cases h
  | .cmp op a b, c, X, o, x, h => by
    simp only [mE] at h
    split at h
    · rename_i y p z hy
      obtain ⟨q, rfl⟩ := asCmp1_eq hy
      (simp only [Bool.and_eq_true] at h)
      exact se_cmp' (copM_ok o.units h.1.1.1) h.1.1.2 (sE a o _ h.1.2) (sE b o _ h.2)
    · cases h
  | .chain op op' a b d, c, X, o, x, h => by
    simp only [mE] at h
    split at h
    · rename_i y p p' z w hy
      obtain ⟨q, rfl⟩ := asCmp2_eq hy
      (simp only [Bool.and_eq_true] at h)
      exact se_chain (copM_ok o.units h.1.1.1.1.1) (copM_ok o.units h.1.1.1.1.2) h.1.1.1.2 (sE a o _ h.1.1.2) (sE b o _ h.1.2) (sE d o _ h.2)
    · cases h
  | .and a r, c, X, o, x, h => by
    simp only [mE] at h
    split at h
    · rename_i y ys hy
      obtain ⟨q, rfl⟩ := asBool_eq hy
      (simp only [Bool.and_eq_true, Bool.not_eq_true'] at h)
      exact se_and (sE a o _ h.1.1) (sEs r o _ h.1.2) h.2
    · cases h
  | .or a r, c, X, o, x, h => by
    simp only [mE] at h
    split at h
    · rename_i y ys hy
      obtain ⟨q, rfl⟩ := asBool_eq hy
      (simp only [Bool.and_eq_true, Bool.not_eq_true'] at h)
      exact se_or (sE a o _ h.1.1) (sEs r o _ h.1.2) h.2
    · cases h
  | .not a, c, X, o, x, h => by
    simp only [mE] at h
    split at h
    · rename_i y hy
      obtain ⟨q, rfl⟩ := asUn_eq hy
      exact se_not (sE a o _ h)
    · cases h
  | .ite t a b, c, X, o, x, h => by
    simp only [mE] at h
    split at h
    · rename_i y p z hy
      obtain ⟨q, rfl⟩ := asIf_eq hy
      (simp only [Bool.and_eq_true] at h)
      exact se_ite (sE t o _ h.1.1) (sE a o _ h.1.2) (sE b o _ h.2)
    · cases h
  | .idx a i, c, X, o, x, h => by
    simp only [mE] at h
    split at h
    · rename_i y z hy
      obtain ⟨q, rfl⟩ := asSub_eq hy
      (simp only [Bool.and_eq_true] at h)
      exact se_idx o.units h.1.1 (sE a o _ h.1.2) (sE i o _ h.2)
    · cases h
  | .slc a lo hi, c, X, o, x, h => by
    simp only [mE] at h
    split at h
    · rename_i y z hy
      obtain ⟨q, rfl⟩ := asSub_eq hy
      split at h
      · rename_i l u hz
        obtain ⟨sp, rfl⟩ := asSlc_eq hz
        (simp only [Bool.and_eq_true] at h)
        obtain ⟨⟨h1, h2⟩, h3⟩ := h
        refine se_slc (sE a o _ h1) ?_ ?_
        · cases l with
          | none => have h2 : lo.isMiss = true := h2; rw [h2]; exact so_none
          | some l =>
            have h2 : (!lo.isMiss && mE c lo l) = true := h2
            simp only [Bool.and_eq_true, Bool.not_eq_true'] at h2
            rw [h2.1]; exact so_some (sE lo o _ h2.2)
        · cases u with
          | none => have h3 : hi.isMiss = true := h3; rw [h3]; exact so_none
          | some u =>
            have h3 : (!hi.isMiss && mE c hi u) = true := h3
            simp only [Bool.and_eq_true, Bool.not_eq_true'] at h3
            rw [h3.1]; exact so_some (sE hi o _ h3.2)
      · cases h
    · cases h
  | .call f es, c, X, o, x, h => by
    simp only [mE] at h
    split at h
    · rename_i y xs hy
      obtain ⟨p, q, rfl⟩ := asCall_eq hy
      split at h
      · rename_i fn hf
        (simp only [Bool.and_eq_true, decide_eq_true_eq] at h)
        obtain ⟨⟨⟨⟨h1, h2⟩, h3⟩, h4⟩, h5⟩ := h
        exact se_call o hf h1 h3 h4 (mEs_nil h5) (fun ρ h0 ds h' e => by rw [es_len es _ _ _ _ e, mEs_len h5, h2]) (sEs es o _ h5)
      · cases h
    · cases h
  | .callK f es kes pm, c, X, o, x, h => by
    simp only [mE] at h
    split at h
    · rename_i y xs kws hy
      obtain ⟨p, q, rfl⟩ := asCallK_eq hy
      split at h
      · rename_i fn hf
        (simp only [Bool.and_eq_true, decide_eq_true_eq] at h)
        (obtain ⟨⟨⟨⟨⟨⟨⟨h1, h2⟩, h3⟩, h4⟩, h5⟩, h6⟩, h7⟩, h8⟩ := h)
        exact se_callK o hf h1 h5 h6 h2 (mEs_nil h7) (fun ρ h0 ds h' e => by rw [es_len es _ _ _ _ e, mEs_len h7]) (fun ρ h0 ds h' e => by rw [es_len kes _ _ _ _ e, mEs_len h8, h4, List.length_map]) h3 (sEs es o _ h7) (sEs kes o _ h8)
      · cases h
    · cases h
  | .bf f es, c, X, o, x, h => by
    simp only [mE] at h
    split at h
    · rename_i y xs hy
      obtain ⟨p, q, rfl⟩ := asCall_eq hy
      simp only [Bool.and_eq_true, decide_eq_true_eq, Bool.not_eq_true'] at h
      obtain ⟨⟨⟨⟨⟨h1, h2⟩, h3⟩, h4⟩, h5⟩, h6⟩ := h
      subst h1
      obtain ⟨e, es', rfl⟩ := isEmpty_cons_false h3
      cases hb : bfOn f with
      | true => exact se_bf hb o (blt_ok h2).1 (blt_ok h2).2 h4 (sEs es o _ h5)
      | false =>
        rw [hb] at h6
        cases f with
        | list => exact se_list o (blt_ok h2).1 (blt_ok h2).2 h4 (sEs es o _ h5)
        | _ => cases h6
    · cases h
  | .isi a t, c, X, o, x, h => by
    simp only [mE] at h
    split at h
    · rename_i f y ty hy
      obtain ⟨p, q, r, rfl⟩ := asIsi_eq hy
      (simp only [Bool.and_eq_true, decide_eq_true_eq] at h)
      (obtain ⟨⟨⟨⟨⟨⟨h1, h2⟩, h3⟩, h4⟩, h5⟩, h6⟩, h7⟩ := h)
      subst h1
      exact se_isi (by rintro rfl; cases h2) h3 o (blt_ok h4).1 (blt_ok h4).2 (blt_ok h5).1 (blt_ok h5).2 h6 (sE a o _ h7)
    · cases h
  | .mth m a es, c, X, o, x, h => by
    simp only [mE] at h
    split at h
    · rename_i y nm xs hy
      obtain ⟨p, q, rfl, hl⟩ := asMth_eq hy
      (simp only [Bool.and_eq_true, decide_eq_true_eq] at h)
      (obtain ⟨⟨⟨⟨⟨⟨h1, h2⟩, h3⟩, h4⟩, h5⟩, h6⟩, h7⟩ := h)
      subst h1
      exact se_mth h2 h3 hl h4 h5 (mEs_nil h7) (sE a o _ h6) (sEs es o _ h7)
    · cases h
  | .lc t it d e, c, X, o, x, h => by
    simp only [mE] at h
    split at h
    · rename_i elt tg iter ifs scope hy
      obtain ⟨p, rfl⟩ := asLc_eq hy
      (simp only [Bool.and_eq_true] at h)
      obtain ⟨⟨⟨⟨⟨h1, h2⟩, h3⟩, h4⟩, h5⟩, h6⟩ := h
      refine SE.plain (tF_val (se_lcF (pt := evE F G d) (pe := evE F G e) (tt := fun _ _ _ => True) o.calm o.nd (sI it o _ _ h2) (blkOk_by (by rw [o.hN, o.sc]; exact h1)) (own_snd t) (fun s H C cl fp => st_ok o.blk h4) (fun s H C cl fp => ?_) (fun s H C cl fp => (sE e o.blk _ h5).v) (plain_fold h3 _)) fun ρ h d h' e => lc_lst _ _ _ _ e) (fun _ => rfl)
      split at h6
      · cases d with
        | miss => exact ⟨fun pins s σ H Q I ⟨ρ, h, J, re, rh, q⟩ => pts_nil.run pins s σ H Q I (q J H true Ext.refl rh rfl)⟩
        | _ => cases h6
      · exact pts_one (sE d o.blk _ h6).t
      · cases h6
    · cases h
  | .tenum a, c, X, o, x, h => by
    simp only [mE] at h
    split at h
    · rename_i f g y hy
      obtain ⟨p, q, r, s, rfl⟩ := asTenum_eq hy
      (simp only [Bool.and_eq_true, decide_eq_true_eq] at h)
      obtain ⟨⟨⟨⟨⟨h1, h2⟩, h3⟩, h4⟩, h5⟩, h6⟩ := h
      subst h1 h2
      exact se_tenum o (blt_ok h3).1 (blt_ok h3).2 (blt_ok h4).1 (blt_ok h4).2 h5 (sE a o _ h6)
    · cases h
theorem sF : ∀ (t : E) {c : Cs} {X : Cx} (o : Ok c F G X) (x : Expr), mF c t x = true → SF X x (evE F G t).v
  | .lst es, c, X, o, x, h => by
    simp only [mF] at h
    split at h
    · rename_i y hy
      obtain ⟨p, rfl⟩ := asLst_eq hy
      exact ⟨se_lstF (sEs es o _ h), fun _ => rfl⟩
    · cases h
  | .bf .list es, c, X, o, x, h => by
    simp only [mF] at h
    split at h
    · rename_i y xs hy
      obtain ⟨p, q, rfl⟩ := asCall_eq hy
      simp only [Bool.and_eq_true, decide_eq_true_eq, Bool.not_eq_true'] at h
      obtain ⟨⟨⟨⟨h1, h2⟩, h3⟩, h4⟩, h5⟩ := h
      subst h1
      obtain ⟨e, es', rfl⟩ := isEmpty_cons_false h3
      exact ⟨se_listF o (blt_ok h2).1 (blt_ok h2).2 h4 (sEs es o _ h5), fun _ => rfl⟩
    · cases h
  | .lc t it d e, c, X, o, x, h => by
    simp only [mF] at h
    split at h
    · rename_i elt tg iter ifs scope hy
      obtain ⟨p, rfl⟩ := asLc_eq hy
      (simp only [Bool.and_eq_true] at h)
      obtain ⟨⟨⟨⟨⟨h1, h2⟩, h3⟩, h4⟩, h5⟩, h6⟩ := h
      refine ⟨se_lcF (pt := evE F G d) (pe := evE F G e) (tt := fun _ _ _ => True) o.calm o.nd (sI it o _ _ h2) (blkOk_by (by rw [o.hN, o.sc]; exact h1)) (own_snd t) (fun s H C cl fp => st_ok o.blk h4) (fun s H C cl fp => ?_) (fun s H C cl fp => (sE e o.blk _ h5).v) (plain_fold h3 _), fun _ => rfl⟩
      split at h6
      · cases d with
        | miss => exact ⟨fun pins s σ H Q I ⟨ρ, h, J, re, rh, q⟩ => pts_nil.run pins s σ H Q I (q J H true Ext.refl rh rfl)⟩
        | _ => cases h6
      · exact pts_one (sE d o.blk _ h6).t
      · cases h6
    · cases h
  | .var _, _, _, _, _, h => by cases h
  | .con _, _, _, _, _, h => by cases h
  | .glo _, _, _, _, _, h => by cases h
  | .miss, _, _, _, _, h => by cases h
  | .tup _, _, _, _, _, h => by cases h
  | .new _, _, _, _, _, h => by cases h
  | .dic0, _, _, _, _, h => by cases h
  | .bin _ _ _, _, _, _, _, h => by cases h
  | .neg _, _, _, _, _, h => by cases h
  | .cmp _ _ _, _, _, _, _, h => by cases h
  | .chain _ _ _ _ _, _, _, _, _, h => by cases h
  | .and _ _, _, _, _, _, h => by cases h
  | .or _ _, _, _, _, _, h => by cases h
  | .not _, _, _, _, _, h => by cases h
  | .ite _ _ _, _, _, _, _, h => by cases h
  | .idx _ _, _, _, _, _, h => by cases h
  | .slc _ _ _, _, _, _, _, h => by cases h
  | .call _ _, _, _, _, _, h => by cases h
  | .callK _ _ _ _, _, _, _, _, h => by cases h
  | .isi _ _, _, _, _, _, h => by cases h
  | .tenum _, _, _, _, _, h => by cases h
  | .mth _ _ _, _, _, _, _, h => by cases h
  | .bf .len _, _, _, _, _, h => by cases h
  | .bf .int _, _, _, _, _, h => by cases h
  | .bf .abs _, _, _, _, _, h => by cases h
  | .bf .tuple _, _, _, _, _, h => by cases h
  | .bf .max2 _, _, _, _, _, h => by cases h
  | .bf .min2 _, _, _, _, _, h => by cases h
  | .bf .sum _, _, _, _, _, h => by cases h
  | .bf .all _, _, _, _, _, h => by cases h
  | .bf .any _, _, _, _, _, h => by cases h
  | .bf .sorted _, _, _, _, _, h => by cases h
  | .bf .repr _, _, _, _, _, h => by cases h
theorem sEs : ∀ (t : Es) {c : Cs} {X : Cx} (o : Ok c F G X) (xs : List Expr), mEs c t xs = true → SEs X xs (evEs F G t)
  | .nil, c, X, o, [], h => ses_nil
  | .nil, c, X, o, _ :: _, h => by cases h
  | .cons _ _, c, X, o, [], h => by cases h
  | .cons e es, c, X, o, x :: xs, h => by
    simp only [mEs, Bool.and_eq_true] at h
    exact ses_cons h.1.1 (sE e o _ h.1.2) (sEs es o _ h.2)
theorem sI : ∀ (t : I) {c : Cs} {X : Cx} (o : Ok c F G X) (tg x : Expr), mI c t tg x = true → PI X tg x (tI X.K (evI F G t))
  | .ev e, c, X, o, tg, x, h => pi_any (sE e o x h).v
  | .rng n, c, X, o, tg, x, h => by
    simp only [mI] at h
    split at h
    · rename_i f y hy
      obtain ⟨p, q, rfl⟩ := asCall_eq hy
      (simp only [Bool.and_eq_true, decide_eq_true_eq] at h)
      (obtain ⟨⟨⟨h1, h2⟩, h3⟩, h4⟩ := h)
      subst h1
      exact pi_rng (glb_ok o (blt_ok h2).2).1 (o.blt _ (blt_ok h2).1) h3 (sE n o _ h4)
    · cases h
  | .rng2 a b, c, X, o, tg, x, h => by
    simp only [mI] at h
    split at h
    · rename_i f y z hy
      obtain ⟨p, q, rfl⟩ := asCall_eq hy
      (simp only [Bool.and_eq_true, decide_eq_true_eq] at h)
      obtain ⟨⟨⟨⟨⟨h1, h2⟩, h3⟩, h4⟩, h5⟩, h6⟩ := h
      subst h1
      exact pi_rng2 (glb_ok o (blt_ok h2).2).1 (o.blt _ (blt_ok h2).1) h3 h4 (sE a o _ h5) (sE b o _ h6)
    · cases h
  | .zip a b, c, X, o, tg, x, h => by
    simp only [mI] at h
    split at h
    · rename_i f y z hy
      obtain ⟨p, q, rfl⟩ := asCall_eq hy
      (simp only [Bool.and_eq_true, decide_eq_true_eq] at h)
      (obtain ⟨⟨⟨⟨⟨⟨h1, h2⟩, h3⟩, h4⟩, h5⟩, h6⟩, h7⟩ := h)
      subst h1
      cases ht : asTup tg with
      | none => rw [ht] at h7; cases h7
      | some es =>
        obtain ⟨k, tp, rfl⟩ := asTup_eq ht
        exact pi_zipS (glb_ok o (blt_ok h2).2).1 (o.blt _ (blt_ok h2).1) h3 h4 (sE a o _ h5) (sE b o _ h6)
    · cases h
  | .enum _, c, X, o, tg, x, h => by cases h
end
end
end PV
end

section
set_option maxRecDepth 100000
namespace PV
open L2 PySem PySem.Spec PyProof.Rows

/-! ### what is wanted behind a statement -/
def PostS (K : PySem.W.Frag) (J : Jn) (H : Hp) (r : RS) (D : Ends) : Prop := match r with
  | .nxt ρ h => ∀ J' H' σ, Ext J H J' H' → RE K J' H' ρ σ → RH K J' h H' → D.nx σ H'
  | .brk ρ h => ∀ J' H' σ, Ext J H J' H' → RE K J' H' ρ σ → RH K J' h H' → D.bk σ H'
  | .cnt ρ h => ∀ J' H' σ, Ext J H J' H' → RE K J' H' ρ σ → RH K J' h H' → D.ct σ H'
  | .ret d h => ∀ J' H' v, Ext J H J' H' → RH K J' h H' → RD K J' H' d v → D.rt v H'
  | _ => False
def tS (K : PySem.W.Frag) (f : Env → Hh → RS) : TS := fun D σ H => ∃ ρ h J, RE K J H ρ σ ∧ RH K J h H ∧ PostS K J H (f ρ h) D
section
variable {K : PySem.W.Frag} {J J' : Jn} {H H' : Hp} {h h' : Hh} {ρ : Env} {σ : L2.St} {α β : Type} {D : Ends}
theorem PostS.ext {r : RS} (rh : RH K J h H) (rh' : RH K J' h' H') (e : Ext J H J' H') (p : PostS K J H r D) : PostS K J' H' r D := by
  cases r with
  | nxt ρ h2 => exact fun J2 H2 s e2 re2 rh2 => p J2 H2 s (e.trans rh rh' e2) re2 rh2
  | brk ρ h2 => exact fun J2 H2 s e2 re2 rh2 => p J2 H2 s (e.trans rh rh' e2) re2 rh2
  | cnt ρ h2 => exact fun J2 H2 s e2 re2 rh2 => p J2 H2 s (e.trans rh rh' e2) re2 rh2
  | ret d h2 => exact fun J2 H2 s e2 rh2 rd => p J2 H2 s (e.trans rh rh' e2) rh2 rd
  | bad => exact p
  | err _ _ => exact p
theorem PostS.step {R1 : RelA α β} {f : Env → Hh → R α} {g : α → Hh → RS} (re : RE K J H ρ σ) (rh : RH K J h H) (p : PostS K J H ((f ρ h).then_ g) D) :
    tG K R1 f σ H (fun b H1 => ∃ J1 h1 a, Ext J H J1 H1 ∧ RE K J1 H1 ρ σ ∧ RH K J1 h1 H1 ∧ R1 J1 H1 a b ∧ PostS K J1 H1 (g a h1) D) := by
  refine ⟨ρ, h, J, re, rh, ?_⟩
  cases q : f ρ h with
  | ok a h1 =>
    rw [q] at p
    exact fun J1 H1 b e rh1 rl => ⟨J1, h1, a, e, re.ext e, rh1, rl, PostS.ext rh rh1 e p⟩
  | bad => rw [q] at p; exact p
  | err _ _ => rw [q] at p; exact p
theorem PostS.seq {r : RS} {g : Env → Hh → RS} (rh : RH K J h H) (p : PostS K J H (r.then_ g) D) : PostS K J H r { D with nx := tS K g D } := by
  cases r with
  | nxt ρ h2 => exact fun J2 H2 s e2 re2 rh2 => ⟨ρ, h2, J2, re2, rh2, PostS.ext rh rh2 e2 p⟩
  | brk ρ h2 => exact p
  | cnt ρ h2 => exact p
  | ret d h2 => exact p
  | bad => exact p
  | err _ _ => exact p

/-! ### objects let go -/
abbrev Jn.cut (J : Jn) (n : Nat) : Jn := ⟨J.l.take n, J.z⟩
mutual
theorem RD.cut {n : Nat} : ∀ {d : PV.D} {v : V}, d.rlt n = true → RD K J H d v → RD K (J.cut n) H d v
  | _, _, _, .non => .non
  | _, _, _, .bl b => .bl b
  | _, _, _, .int i => .int i
  | _, _, _, .str x => .str x
  | _, _, h, .tup a m q z r => .tup (fun hm => a (List.mem_of_mem_take hm)) m q z (RDs.cut h r)
  | _, _, h, .ktup k z r => .ktup k z (RDs.cut h r)
  | _, _, h, .lst a m q z r => .lst (fun hm => a (List.mem_of_mem_take hm)) m q z (RDs.cut h r)
  | _, _, h, .ref q => .ref (by
      have h : decide (_ < n) = true := h
      have := of_decide_eq_true h
      show (J.l.take n)[_]? = _
      rw [List.getElem?_take_of_lt this]; exact q)
  | _, _, h, .fz a m q z r => .fz (fun hm => a (List.mem_of_mem_take hm)) m q z (RDs.cut h r)
  | _, _, h, .kfz k z r => .kfz k z (RDs.cut h r)
theorem RDs.cut {n : Nat} : ∀ {ds : List PV.D} {vs : List V}, PV.D.rlts n ds = true → RDs K J H ds vs → RDs K (J.cut n) H ds vs
  | _, _, _, .nil => .nil
  | _, _, h, .cons r t => by
    simp only [PV.D.rlts, Bool.and_eq_true] at h
    exact .cons (RD.cut h.1 r) (RDs.cut h.2 t)
end
theorem paired_all {γ δ : Type} {Q Q' : γ → δ → Prop} {f : γ → Bool} (hf : ∀ p q, f p = true → Q p q → Q' p q) : ∀ {xs : List γ} {ys : List δ}, xs.all f = true → Paired Q xs ys → Paired Q' xs ys
  | _, _, _, .nil => .nil
  | _, _, h, .cons x t => by
    (simp only [List.all_cons, Bool.and_eq_true] at h)
    exact .cons (hf _ _ h.1 x) (paired_all hf h.2 t)
theorem RO.cut {n : Nat} {o : O} {u : HO} (h : o.rlt n = true) (r : RO K J H o u) : RO K (J.cut n) H o u := by
  cases r with
  | lst z r => exact .lst z (r.cut h)
  | @dct kvs kws z r =>
    have h : (kvs.all fun p : Key × PV.D => p.2.rlt n) = true := h
    exact .dct z (paired_all (fun p q hp x => ⟨x.1, x.2.cut hp⟩) h r)
theorem RH.cut {n : Nat} (hn : n ≤ h.length) (hr : Hh.rlt (h.take n) n = true) (rh : RH K J h H) : RH K (J.cut n) (h.take n) H where
  nd := (List.take_sublist n J.l).nodup rh.nd
  len := by show (J.l.take n).length = _; rw [List.length_take, List.length_take, rh.len]
  obj := fun i o e => by
    have hi : i < n := by
      have := (List.getElem?_eq_some_iff.mp e).1
      simp at this; omega
    have e' : h[i]? = some o := by rw [List.getElem?_take_of_lt hi] at e; exact e
    obtain ⟨a, u, h1, h2, h3⟩ := rh.obj i o e'
    refine ⟨a, u, by show (J.l.take n)[i]? = _; rw [List.getElem?_take_of_lt hi]; exact h1, h2, h3.cut ?_⟩
    exact List.all_eq_true.mp hr o (List.mem_of_getElem? e)
  apart := fun a ha hm => rh.apart a ha (List.mem_of_mem_take hm)
  zed := rh.zed
theorem kill_get : ∀ {ks : List Nat} {ρ : Env} {i : Nat} {d : PV.D}, (kill ks ρ)[i]? = some (some d) → ρ[i]? = some (some d)
  | [], _, _, _, e => e
  | k :: ks, ρ, i, d, e => by
    have := kill_get (ks := ks) e
    by_cases hj : k = i
    · subst hj
      by_cases hl : k < ρ.length
      · rw [List.getElem?_set_self hl] at this; cases this
      · rw [List.getElem?_eq_none (by simpa using hl)] at this; cases this
    · rwa [List.getElem?_set_ne hj] at this
theorem kill_len : ∀ {ks : List Nat} {ρ : Env}, (kill ks ρ).length = ρ.length
  | [], _ => rfl
  | k :: ks, ρ => by show (kill ks _).length = _; rw [kill_len, List.length_set]
theorem RE.cut {n : Nat} {ks : List Nat} (hr : Env.rlt n (kill ks ρ) = true) (re : RE K J H ρ σ) : RE K (J.cut n) H (kill ks ρ) σ := by
  refine ⟨by rw [kill_len]; exact re.len, fun i d q => ?_⟩
  obtain ⟨v, h1, h2⟩ := re.get i d (kill_get q)
  exact ⟨v, h1, h2.cut (List.all_eq_true.mp hr (some d) (List.mem_of_getElem? q))⟩
theorem Ext.cut (rh : RH K J h H) (e : Ext J H J' H') : Ext J H (J'.cut h.length) H' := by
  obtain ⟨m, hm, _⟩ := e.pre
  refine ⟨e.z, ⟨[], ?_, by simp⟩, e.keep⟩
  show J'.l.take h.length = J.l ++ []
  rw [hm, ← rh.len, List.take_left, List.append_nil]
theorem PostS.gc {r : RS} {ks : List Nat} (rh : RH K J h H) (p : PostS K J H (gcS ks h.length r) D) : PostS K J H r D := by
  have hle : ∀ {J' : Jn} {H' : Hp} {h' : Hh}, Ext J H J' H' → RH K J' h' H' → h.length ≤ h'.length := fun e rh' => by
    obtain ⟨m, hm, _⟩ := e.pre
    rw [← rh'.len, ← rh.len, hm, List.length_append]; omega
  cases r with
  | nxt ρ h2 =>
    simp only [gcS] at p
    split at p
    · rename_i hc
      (simp only [Bool.and_eq_true] at hc)
      exact fun J2 H2 s e2 re2 rh2 => p _ H2 s (e2.cut rh) (re2.cut hc.1) (rh2.cut (hle e2 rh2) hc.2)
    · exact p.elim
  | brk ρ h2 =>
    simp only [gcS] at p
    split at p
    · rename_i hc
      (simp only [Bool.and_eq_true] at hc)
      exact fun J2 H2 s e2 re2 rh2 => p _ H2 s (e2.cut rh) (re2.cut hc.1) (rh2.cut (hle e2 rh2) hc.2)
    · exact p.elim
  | cnt ρ h2 =>
    simp only [gcS] at p
    split at p
    · rename_i hc
      (simp only [Bool.and_eq_true] at hc)
      exact fun J2 H2 s e2 re2 rh2 => p _ H2 s (e2.cut rh) (re2.cut hc.1) (rh2.cut (hle e2 rh2) hc.2)
    · exact p.elim
  | ret d h2 => exact p
  | bad => exact p
  | err _ _ => exact p
end

/-! ### the statements -/
section
variable {X : Cx} {e x a b : Expr} {st : Stmt} {p pa pb pc : P} {pos pos' : Pos}
theorem ss_nil : PSs X [] (tS X.K fun ρ h => .nxt ρ h) := pss_nil.imp fun D σ H ⟨ρ, h, J, re, rh, q⟩ => q J H σ Ext.refl re rh
theorem ss_cons {sts : List Stmt} {f g : Env → Hh → RS} (h1 : PS X st (tS X.K f)) (h2 : PSs X sts (tS X.K g)) : PSs X (st :: sts) (tS X.K fun ρ h => (f ρ h).then_ g) :=
  (pss_cons h1 h2).imp fun D σ H ⟨ρ, h, J, re, rh, q⟩ => ⟨ρ, h, J, re, rh, q.seq rh⟩
def notComp : Expr → Bool
  | .ListComp .. => false
  | .SetComp .. => false
  | .DictComp .. => false
  | _ => true
theorem swaps_not {t : Option Expr} {l : Nat} {env : PySem.Env} (h : notComp e = true) : swapsWith e t l env = pure false := by cases e <;> first | rfl | cases h
theorem ss_asg {i : Nat} {y : Str} (hN : X.N.Nodup) (hi : X.N[i]? = some y) (hx : L2.Loc X.env.scope y) (hf : X.fn y = true ∨ X.env.scope.names.lookup y = some .local) (hn : notComp e = true) (he : SE X e p) :
    PS X (.Assign [.Name y pos'] e pos) (tS X.K fun ρ h => (p.v ρ h).then_ fun x h1 => .nxt (ρ.set i (some x)) h1) :=
  (ps_set hN hi hx he.v (swaps_not hn) hf).imp fun D σ H ⟨ρ, h, J, re, rh, q⟩ => (PostS.step (R1 := rD X.K) (f := p.v) re rh q).mono fun x H1 ⟨J1, h1, dx, e1, re1, rh1, rx, q1⟩ => q1 J1 H1 _ Ext.refl (re1.set i rx) rh1
theorem ss_exp (hn : notComp e = true) (he : SE X e p) : PS X (.Expr e pos) (tS X.K fun ρ h => (p.v ρ h).then_ fun _ h1 => .nxt ρ h1) :=
  (ps_expr he.v (swaps_not hn)).imp fun D σ H ⟨ρ, h, J, re, rh, q⟩ => (PostS.step (R1 := rD X.K) (f := p.v) re rh q).mono fun x H1 ⟨J1, h1, dx, e1, re1, rh1, rx, q1⟩ => q1 J1 H1 _ Ext.refl re1 rh1
theorem ss_ret (he : SE X e p) : PS X (.Return (some e) pos) (tS X.K fun ρ h => (p.v ρ h).then_ fun x h1 => .ret x h1) :=
  (ps_ret he.v).imp fun D σ H ⟨ρ, h, J, re, rh, q⟩ => (PostS.step (R1 := rD X.K) (f := p.v) re rh q).mono fun x H1 ⟨J1, h1, dx, e1, re1, rh1, rx, q1⟩ => q1 J1 H1 _ Ext.refl rh1 rx
theorem ss_retN : PS X (.Return none pos) (tS X.K fun _ h => .ret .non h) := ps_retN.imp fun D σ H ⟨ρ, h, J, re, rh, q⟩ => q J H _ Ext.refl rh .non
theorem ss_pass : PS X (.Pass pos) (tS X.K fun ρ h => .nxt ρ h) := ps_pass.imp fun D σ H ⟨ρ, h, J, re, rh, q⟩ => q J H σ Ext.refl re rh
theorem ss_brk : PS X (.Break pos) (tS X.K fun ρ h => .brk ρ h) := ps_break.imp fun D σ H ⟨ρ, h, J, re, rh, q⟩ => q J H σ Ext.refl re rh
theorem ss_cnt : PS X (.Continue pos) (tS X.K fun ρ h => .cnt ρ h) := ps_continue.imp fun D σ H ⟨ρ, h, J, re, rh, q⟩ => q J H σ Ext.refl re rh
theorem ss_if {as bs : List Stmt} {f g : Env → Hh → RS} (hc : SE X e p) (ha : PSs X as (tS X.K f)) (hb : PSs X bs (tS X.K g)) : PS X (.If e as bs pos) (tS X.K fun ρ h => (p.t ρ h).then_ fun t h1 => if t then f ρ h1 else g ρ h1) :=
  (ps_if hc.t ha hb).imp fun D σ H ⟨ρ, h, J, re, rh, q⟩ => (PostS.step (R1 := rB) (f := p.t) re rh q).mono fun x H1 ⟨J1, h1, t, e1, re1, rh1, rx, q1⟩ => by
    have rx : t = x := rx
    subst rx
    cases t with
    | true => exact ⟨ρ, h1, J1, re1, rh1, q1⟩
    | false => exact ⟨ρ, h1, J1, re1, rh1, q1⟩
theorem ss_whl {body : List Stmt} {f : Env → Hh → RS} (hx : X.xe = fun _ _ => False) (hc : SE X e p) (hb : PSs X body (tS X.K f)) : PS X (.While e body [] pos) (tS X.K fun ρ h => whlLoop p.t f wfuel ρ h) := by
  refine (ps_while (by rw [hx]; exact PassesOwn.never) hc.t hb).imp fun D σ H ⟨ρ, h, J, re, rh, q⟩ => ?_
  refine ⟨fun m σ H => ∃ ρ h J, RE X.K J H ρ σ ∧ RH X.K J h H ∧ PostS X.K J H (whlLoop p.t f m ρ h) D, ⟨wfuel, ρ, h, J, re, rh, q⟩, ?_⟩
  clear q re rh
  rintro m σ H ⟨ρ, h, J, re, rh, q⟩
  cases m with
  | zero => exact False.elim q
  | succ m =>
    refine (PostS.step (R1 := rB) (f := p.t) re rh q).mono fun x H1 ⟨J1, h1, t, e1, re1, rh1, rx, q1⟩ => ?_
    have rx : t = x := rx
    subst rx
    cases t with
    | false => exact q1 J1 H1 _ Ext.refl re1 rh1
    | true =>
      simp only [if_true] at q1 ⊢
      refine ⟨fun σ' H' => ∃ ρ h J, RE X.K J H' ρ σ' ∧ RH X.K J h H' ∧ PostS X.K J H' (whlLoop p.t f m ρ h) D, fun σ' H' z => ⟨m, Nat.lt_succ_self m, z⟩, ρ, h1, J1, re1, rh1, ?_⟩
      cases ef : f ρ h1 with
      | nxt ρ' h' => rw [ef] at q1; exact fun J2 H2 s e2 re2 rh2 => ⟨ρ', h', J2, re2, rh2, PostS.ext rh1 rh2 e2 q1⟩
      | cnt ρ' h' => rw [ef] at q1; exact fun J2 H2 s e2 re2 rh2 => ⟨ρ', h', J2, re2, rh2, PostS.ext rh1 rh2 e2 q1⟩
      | brk ρ' h' => rw [ef] at q1; exact q1
      | ret d h' => rw [ef] at q1; exact q1
      | bad => rw [ef] at q1; exact q1
      | err _ _ => rw [ef] at q1; exact q1
theorem ss_for {tg iter : Expr} {body : List Stmt} {t : Tg} {fi : Env → Hh → R Src} {f : Env → Hh → RS} (hx : X.xe = fun _ _ => False) (hc : X.calm = true) (hi : PI X tg iter (tI X.K fi)) (hg : ST X tg t t.slots) (hb : PSs X body (tS X.K f)) (hp : plainX iter = true) :
    PS X (.For tg iter body [] pos) (tS X.K fun ρ h => (fi ρ h).then_ fun s h1 => forLoop s.good t f s.items ρ h1) := by
  refine (ps_for (by rw [hx]; exact PassesOwn.never) hc hi hg.run hb (plain_fold hp _)).imp fun D σ H ⟨ρ, h, J, re, rh, q⟩ => ?_
  refine ⟨ρ, h, J, re, rh, ?_⟩
  dsimp only at q
  cases ev : fi ρ h with
  | bad => rw [ev] at q; exact q
  | err _ _ => rw [ev] at q; exact q
  | ok src h1 =>
    rw [ev, R.then_ok] at q
    intro J1 H1 it e1 rh1 itok
    let W : Nat → Nat → L2.St → Hp → Prop := fun i m σ H2 => m = src.items.length - i ∧ i ≤ src.items.length ∧ ∃ ρ2 h2 J2, RE X.K J2 H2 ρ2 σ ∧ RH X.K J2 h2 H2 ∧ Sub J1 H1 J2 H2 ∧ PostS X.K J2 H2 (forLoop src.good t f (src.items.drop i) ρ2 h2) D
    refine ⟨W, ⟨src.items.length, by simp, Nat.zero_le _, ρ, h1, J1, re.ext e1, rh1, Sub.refl, PostS.ext rh rh1 e1 q⟩, fun i m σ H2 hW => ?_⟩
    clear q
    obtain ⟨rfl, hi', ρ2, h2, J2, re2, rh2, s2, q⟩ := hW
    cases hd : src.items[i]? with
    | none =>
      have hlen : i = src.items.length := by have := List.getElem?_eq_none_iff.mp hd; omega
      subst hlen
      rw [List.drop_eq_nil_of_le (Nat.le_refl _)] at q
      unfold forLoop at q
      split at q
      · rename_i hgood
        exact .inl ⟨itok.stop s2 rh2 hgood, q J2 H2 σ Ext.refl re2 rh2⟩
      · exact False.elim q
    | some d =>
      have hlt : i < src.items.length := (List.getElem?_eq_some_iff.mp hd).1
      rw [List.drop_eq_getElem_cons hlt] at q
      have hde : src.items[i] = d := by rw [List.getElem?_eq_getElem hlt] at hd; exact Option.some.inj hd
      rw [hde] at q
      unfold forLoop at q
      cases hgood : src.good h2 with
      | false => rw [hgood] at q; exact False.elim q
      | true =>
        rw [hgood] at q
        simp only [if_true] at q
        obtain ⟨g1, g2⟩ := itok.go s2 rh2 hgood hd
        refine .inr ⟨g1, fun σ' H' => ∃ m', m' < src.items.length - i ∧ W (i + 1) m' σ' H', fun σ' H' z => z, fun xv H3 y3 => ?_⟩
        obtain ⟨e3, rh3, rd3⟩ := g2 xv H3 y3
        cases ht2 : t.put d ρ2 with
        | none => simp only [ht2] at q; exact False.elim q
        | some ρ' =>
          simp only [ht2] at q
          have q := PostS.ext rh2 rh3 e3 q
          refine ⟨ρ2, ρ', h2, J2, d, re2.ext e3, rh3, rd3, ht2, fun σ2 re4 hk hl => ⟨ρ', h2, J2, re4, rh3, ?_⟩⟩
          have again : ∀ {ρ5 : Env} {h5 : Hh}, PostS X.K J2 H3 (forLoop src.good t f (src.items.drop (i + 1)) ρ5 h5) D → ∀ J5 H5 σ5, Ext J2 H3 J5 H5 → RE X.K J5 H5 ρ5 σ5 → RH X.K J5 h5 H5 → ∃ m', m' < src.items.length - i ∧ W (i + 1) m' σ5 H5 :=
            fun {ρ5 h5} q5 J5 H5 σ5 e5 re5 rh5 => ⟨_, by omega, rfl, hlt, ρ5, h5, J5, re5, rh5, (s2.trans e3.sub).trans e5.sub, PostS.ext rh3 rh5 e5 q5⟩
          cases ef : f ρ' h2 with
          | nxt ρ5 h5 => rw [ef] at q; exact again q
          | cnt ρ5 h5 => rw [ef] at q; exact again q
          | brk ρ5 h5 => rw [ef] at q; exact q
          | ret d h' => rw [ef] at q; exact q
          | bad => rw [ef] at q; exact q
          | err _ _ => rw [ef] at q; exact q
end
end PV
end

section
set_option maxRecDepth 100000
namespace PV
open L2 PySem PySem.Spec PyProof.Rows
section
variable {X : Cx} {e x a b : Expr} {st : Stmt} {p pa pb pc : P} {pos pos' : Pos}

/-! ### several names at once -/
theorem ss_unp {es : List Expr} {is : List Nat} {k : Nat} {tp : Pos} (hc : X.calm = true) (hs : STs X es is) (hn : notComp e = true) (ht : asTup e = none) (he : SE X e p) :
    PS X (.Assign [.Tuple es k tp] e pos) (tS X.K fun ρ h => (p.v ρ h).then_ fun x h1 => RS.opt ((Tg.tu is).put x ρ) h1) := by
  refine (ps_asg he.v (st_tu hc hs).run ?_ ?_).imp fun D σ H ⟨ρ, h, J, re, rh, q⟩ => ?_
  · unfold swapsWithSole
    exact swaps_not hn
  · cases e <;> first | rfl | cases ht
  refine (PostS.step (R1 := rD X.K) (f := p.v) re rh q).mono fun x H1 ⟨J1, h1, dx, e1, re1, rh1, rx, q1⟩ => ?_
  cases hp : (Tg.tu is).put dx ρ with
  | none => rw [hp] at q1; exact False.elim q1
  | some ρ' => rw [hp] at q1; exact ⟨ρ, ρ', h1, J1, dx, re1, rh1, rx, hp, fun σ' re' _ _ => q1 J1 H1 σ' Ext.refl re' rh1⟩
/-- two names from two values: the stores are swapped -/
theorem swapped_two {x y : Str} {px py tp vp : Pos} {k k2 : Nat} {env : PySem.Env} (hk : env.scope.kind = .function) (hx : env.scope.names.lookup x = some .local) (hy : env.scope.names.lookup y = some .local) (hne : x ≠ y) (hl : (py.line == px.line) = true)
    (ha : plainX a = true) (hb : plainX b = true) (hf : (foldedForSure 8 a && foldedForSure 8 b) = false) (hcn : (constantsAlone 8 a && constantsAlone 8 b) = false) :
    swappedStores [.Tuple [.Name x px, .Name y py] k tp] (.Tuple [a, b] k2 vp) env = pure (some [x, y]) := by
  have kx : env.kindOf x = some .local := hx
  (have ky : env.kindOf y = some .local := hy)
  have hbk : env.blockKind = .function := by unfold PySem.Env.blockKind; rw [hk]; rfl
  have h1 : ([a, b].any fun | .Starred .. => true | _ => false) = false := by
    cases a <;> first | (exfalso; cases ha; done) | (cases b <;> first | (exfalso; cases hb; done) | rfl)
  have h2 : [a, b].all (foldedForSure 8) = false := by simpa using hf
  have h3 : [a, b].all (constantsAlone 8) = false := by simpa using hcn
  have hl' : py.line = px.line := by simpa using hl
  have h5 : ([x, y] : List Str).eraseDups.length = 2 := by
    have h6 : (y == x) = false := by simpa using (Ne.symm hne)
    simp [List.eraseDups_cons, h6]
  unfold swappedStores
  simp only [hbk, h1, h2, h3, List.filterMap_cons, List.filterMap_nil, kx, ky, List.head?_cons, Option.map_some, Option.getD_some, Expr.pos, hl', beq_self_eq_true, Bool.and_self, if_true, h5]
  rw [if_neg (by simp), if_neg (fun hh => absurd (hh.symm.trans h1) (by decide)), if_neg (by simp), if_neg (by decide), if_neg (by decide)]
theorem ss_par {i j : Nat} {x y : Str} {px py tp vp : Pos} {k k2 : Nat} (hc : X.calm = true) (hN : X.N.Nodup) (hi : X.N[i]? = some x) (hj : X.N[j]? = some y) (hij : i ≠ j) (hk : X.env.scope.kind = .function)
    (hx : X.env.scope.names.lookup x = some .local) (hy : X.env.scope.names.lookup y = some .local) (hne : x ≠ y) (hl : (py.line == px.line) = true) (hpa : plainX a = true) (hpb : plainX b = true) (hf : (foldedForSure 8 a && foldedForSure 8 b) = false) (hcn : (constantsAlone 8 a && constantsAlone 8 b) = false)
    (ha : SE X a pa) (hb : SE X b pb) :
    PS X (.Assign [.Tuple [.Name x px, .Name y py] k tp] (.Tuple [a, b] k2 vp) pos) (tS X.K fun ρ h => (pa.v ρ h).then_ fun x h1 => (pb.v ρ h1).then_ fun y h2 => .nxt ((ρ.set i (some x)).set j (some y)) h2) := by
  refine (ps_par hc hN hi hj hij hx hy (pa_cons ha.v (pa_cons hb.v pa_nil (plain_star hpb _ _)) (plain_star hpa _ _)) (swapped_two hk hx hy hne hl hpa hpb hf hcn)).imp fun D σ H ⟨ρ, h, J, re, rh, q⟩ => ?_
  refine (PostS.step (R1 := rD X.K) (f := pa.v) re rh q).mono fun x H1 ⟨J1, h1, dx, e1, re1, rh1, rx, q1⟩ => ?_
  refine (PostS.step (R1 := rD X.K) (f := pb.v) re1 rh1 q1).mono fun y H2 ⟨J2, h2, dy, e2, re2, rh2, ry, q2⟩ => ?_
  exact ⟨x, y, rfl, q2 J2 H2 _ Ext.refl ((re2.set i (rx.ext e2)).set j ry) rh2⟩

/-! ### stores -/
theorem putD_rel {K : PySem.W.Frag} {J : Jn} {H : Hp} {kvs : List (Key × D)} {kws : List (Key × V)} {k : Key} {d : D} {v : V} (r : Paired (fun p q => p.1 = q.1 ∧ RD K J H p.2 q.2) kvs kws) (rv : RD K J H d v) :
    Paired (fun p q => p.1 = q.1 ∧ RD K J H p.2 q.2) (putD kvs k d) (putK kws k v) := by
  have ha : ∀ {kvs : List (Key × D)} {kws : List (Key × V)}, Paired (fun p q => p.1 = q.1 ∧ RD K J H p.2 q.2) kvs kws → (kvs.any fun kv => decide (kv.1 = k)) = kws.any fun kv => decide (kv.1 = k) := by
    intro kvs kws r
    induction r with
    | nil => rfl
    | cons x t ih => simp only [List.any_cons, ih, x.1]
  have hm : ∀ {kvs : List (Key × D)} {kws : List (Key × V)}, Paired (fun p q => p.1 = q.1 ∧ RD K J H p.2 q.2) kvs kws → Paired (fun p q => p.1 = q.1 ∧ RD K J H p.2 q.2) (kvs.map fun kv => if kv.1 = k then (kv.1, d) else kv) (kws.map fun kv => if kv.1 = k then (kv.1, v) else kv) := by
    intro kvs kws r
    induction r with
    | nil => exact .nil
    | @cons p q ps qs x t ih =>
      refine .cons ?_ ih
      dsimp only
      by_cases hk : p.1 = k
      · rw [if_pos hk, if_pos (x.1 ▸ hk)]; exact ⟨x.1, rv⟩
      · rw [if_neg hk, if_neg (x.1 ▸ hk)]; exact x
  have hap : ∀ {kvs : List (Key × D)} {kws : List (Key × V)}, Paired (fun p q => p.1 = q.1 ∧ RD K J H p.2 q.2) kvs kws → Paired (fun p q => p.1 = q.1 ∧ RD K J H p.2 q.2) (kvs ++ [(k, d)]) (kws ++ [(k, v)]) := by
    intro kvs kws r
    induction r with
    | nil => exact .cons ⟨rfl, rv⟩ .nil
    | cons x t ih => exact .cons x ih
  unfold putD putK
  rw [ha r]
  split
  · exact hm r
  · exact hap r
theorem putK_len {kws : List (Key × V)} {k : Key} {v : V} : (putK kws k v).length ≤ kws.length + 1 := by
  unfold putK
  split
  · rw [List.length_map]; omega
  · rw [List.length_append]; exact Nat.le_refl _
def rSto (K : PySem.W.Frag) : TSet := fun o i v H Q => ∃ J h do_ di dv h', RH K J h H ∧ RD K J H do_ o ∧ RD K J H di i ∧ RD K J H dv v ∧ stoOp do_ di dv h = some h' ∧ ∀ J' H', Ext J H J' H' → RH K J' h' H' → Q H'
theorem ps_stoR (hu : X.A.units + 1 < cLine) : PSet X (rSto X.K) := by
  intro pins s σ H o i v ov iv u Q I ro ri rv ⟨J, h, do_, di, dv, h', rh, r1, r2, r3, e, q⟩
  cases r1 with
  | @ref n a q1 =>
    obtain ⟨ob, w, h1, h2, h3⟩ := rh.at q1
    simp only [stoOp, h1] at e
    cases h3 with
    | @lst ds vs z rr =>
      cases r2 with
      | int k =>
        dsimp only at e
        split at e
        · rename_i j hj
          cases e
          rw [rr.length] at hj
          have r4 : RDs X.K J H (ds.set j dv) (vs.set j v) := rr.set j r3
          exact set_list pins s σ H _ _ v ov iv u Q I ro ri rv ⟨a, vs, k, j, rfl, rfl, h2, hj, q J _ (Ext.write q1) (rh.writeL q1 (by simpa using z) r4)⟩
        · cases e
      | _ => cases e
    | @dct kvs kws z rr =>
      dsimp only at e
      split at e
      · rename_i k hk
        split at e
        · rename_i hz
          cases e
          have hz' : kws.length + 1 ≤ sizeLine := by rw [← Paired.length rr]; exact size_of hz
          have hi := key_inv hk r2
          subst hi
          exact set_dict hu pins s σ H _ _ v ov iv u Q I ro ri rv ⟨a, _, rfl, .k h2 hz', q J _ (Ext.write q1) (rh.write q1 (.dct (Nat.le_trans putK_len hz') (Paired.mapP (putD_rel rr r3) fun p q x => ⟨x.1, x.2.ext (Ext.write q1)⟩)))⟩
        · cases e
      · cases e
  | _ => cases e
theorem ss_sto {o i : Expr} {po pi : P} {sp : Pos} (hu : X.A.units + 200 < cLine) (hn : plainX i = true) (ho : SE X o po) (hi : SE X i pi) (he : SE X e p) :
    PS X (.Assign [.Subscript o i sp] e pos) (tS X.K fun ρ h => (p.v ρ h).then_ fun x h1 => (po.v ρ h1).then_ fun y h2 => (pi.v ρ h2).then_ fun z h3 => match stoOp y z x h3 with
    | some h4 => .nxt ρ h4
    | none => .bad) := by
  refine (ps_asg he.v (pg_sub ho.v hi.v (ps_stoR (by omega)) ?_) ?_).imp fun D σ H ⟨ρ, h, J, re, rh, q⟩ => ?_
  · intro v; cases i <;> first | rfl | cases hn
  · cases e <;> rfl
  refine (PostS.step (R1 := rD X.K) (f := p.v) re rh q).mono fun x H1 ⟨J1, h1, dx, e1, re1, rh1, rx, q1⟩ => ?_
  refine (PostS.step (R1 := rD X.K) (f := po.v) re1 rh1 q1).mono fun y H2 ⟨J2, h2, dy, e2, re2, rh2, ry, q2⟩ => ?_
  refine (PostS.step (R1 := rD X.K) (f := pi.v) re2 rh2 q2).mono fun z H3 ⟨J3, h3, dz, e3, re3, rh3, rz, q3⟩ => ?_
  cases hs : stoOp dy dz dx h3 with
  | none => rw [hs] at q3; exact False.elim q3
  | some h4 =>
    rw [hs] at q3
    exact ⟨J3, h3, dy, dz, dx, h4, rh3, ry.ext e3, rz, (rx.ext e2).ext e3, hs, fun J4 H4 e4 rh4 => q3 J4 H4 σ e4 (re3.ext e4) rh4⟩
def rAug (K : PySem.W.Frag) (o : BOp) : TIp := fun x y H Q => ∃ J dx dy d, RD K J H dx x ∧ RD K J H dy y ∧ augOp o dx dy = some d ∧ ∀ v, RD K J H d v → Q v H
def augM : BOp → Operator → Bool
  | .add, .Add => true
  | .sub, .Sub => true
  | .fdiv, .FloorDiv => true
  | .mod, .Mod => true
  | _, _ => false
theorem augM_ok {o : BOp} {op : Operator} (h : augM o op = true) : PIp X op (rAug X.K o) := by
  unfold augM at h
  split at h
  · intro pins s σ H x y v u Q I rx ry ⟨J, dx, dy, d, r1, r2, e, q⟩
    simp only [augOp] at e
    split at e
    · cases e; cases r1; cases r2
      exact iop_add pins s σ H _ _ v u Q I rx ry ⟨_, _, rfl, rfl, q _ (.int _)⟩
    · cases r1; cases r2
      split at e
      · rename_i hz; cases e
        exact iop_add_str pins s σ H _ _ v u Q I rx ry ⟨_, _, rfl, rfl, size_of hz, q _ (.str _)⟩
      · cases e
    · cases e
  · intro pins s σ H x y v u Q I rx ry ⟨J, dx, dy, d, r1, r2, e, q⟩
    simp only [augOp] at e
    split at e
    · cases e; cases r1; cases r2
      exact iop_sub pins s σ H _ _ v u Q I rx ry ⟨_, _, rfl, rfl, q _ (.int _)⟩
    · cases e
  · intro pins s σ H x y v u Q I rx ry ⟨J, dx, dy, d, r1, r2, e, q⟩
    simp only [augOp] at e
    split at e
    · cases r1; cases r2
      split at e
      · rename_i hz; cases e
        exact iop_fdiv pins s σ H _ _ v u Q I rx ry ⟨_, _, rfl, rfl, hz, q _ (.int _)⟩
      · cases e
    · cases e
  · intro pins s σ H x y v u Q I rx ry ⟨J, dx, dy, d, r1, r2, e, q⟩
    simp only [augOp] at e
    split at e
    · cases r1; cases r2
      split at e
      · rename_i hz; cases e
        exact iop_mod pins s σ H _ _ v u Q I rx ry ⟨_, _, rfl, rfl, hz, q _ (.int _)⟩
      · cases e
    · cases e
  · cases h
theorem ss_aug {i : Nat} {y : Str} {o : BOp} {op : Operator} (hN : X.N.Nodup) (hi : X.N[i]? = some y) (hx : L2.Loc X.env.scope y) (hf : X.fn y = true ∨ X.env.scope.names.lookup y = some .local) (ho : augM o op = true) (he : SE X e p) :
    PS X (.AugAssign (.Name y pos') op e pos) (tS X.K fun ρ h => match ρ[i]? with
    | some (some x) => (p.v ρ h).then_ fun y h1 => match augOp o x y with
      | some z => .nxt (ρ.set i (some z)) h1
      | none => .bad
    | _ => .bad) := by
  refine (ps_aug hN hi hx he.v (augM_ok ho) hf).imp fun D σ H ⟨ρ, h, J, re, rh, q⟩ => ?_
  dsimp only at q
  cases e0 : ρ[i]? with
  | none => rw [e0] at q; exact False.elim q
  | some od =>
    cases od with
    | none => rw [e0] at q; exact False.elim q
    | some d =>
      rw [e0] at q
      obtain ⟨v, hv, rd⟩ := re.get i d e0
      refine ⟨v, hv, ?_⟩
      refine (PostS.step (R1 := rD X.K) (f := p.v) re rh q).mono fun x H1 ⟨J1, h1, dx, e1, re1, rh1, rx, q1⟩ => ?_
      cases ha : augOp o d dx with
      | none => rw [ha] at q1; exact False.elim q1
      | some z =>
        rw [ha] at q1
        exact ⟨J1, d, dx, z, rd.ext e1, rx, ha, fun w rw' => q1 J1 H1 _ Ext.refl (re1.set i rw') rh1⟩
/-- name = [..] -/
theorem ss_asgLc {i : Nat} {y : Str} {py sp : Pos} {elt tg iter : Expr} {ifs : List Expr} {scope : Scope} {own : List (Str × Nat)} {t : Tg} {f : Env → Hh → R Src} {v' : Env → Hh → R D} (hc : X.calm = true) (hN : X.N.Nodup) (hy : X.N[i]? = some y) (hyl : X.env.scope.names.lookup y = some .local)
    (hk : X.env.scope.kind = .function) (hl : (py.line == pos.line) = true) (hsh : (scope.names.any fun (n, k) => n == y && (k == .local || k == .cell)) = false) (hi : PI X tg iter (tI X.K f)) (ok : BlkOk X.N X.env.scope scope own) (hown : own.map (·.2) = t.slots)
    (hg : ∀ (s : Shared) (H : Hp) (C : Addr) (cl : List (Str × Addr)) (fp : List Addr), ST (X.blk s H scope (compEnvC scope cl C X.env) fp) tg t t.slots)
    (ht : ∀ (s : Shared) (H : Hp) (C : Addr) (cl : List (Str × Addr)) (fp : List Addr), PTs (X.blk s H scope (compEnvC scope cl C X.env) fp) ifs (tG X.K rB pc.t))
    (he : ∀ (s : Shared) (H : Hp) (C : Addr) (cl : List (Str × Addr)) (fp : List Addr), PE (X.blk s H scope (compEnvC scope cl C X.env) fp) elt (tG X.K (rD X.K) p.v)) (hs : ∀ x, foldedSetIterable iter X.env x = pure x)
    (hv : ∀ {σ : L2.St} {H : Hp} {Q : VK}, tG X.K (rD X.K) v' σ H Q → tF X.K (fun ρ h => (f ρ h).bind fun s h1 => if sizeOk s.items.length then lcLoop s.good (lcTurn t pc p ρ) s.items [] h1 else .bad) σ H Q) :
    PS X (.Assign [.Name y py] (.ListComp elt [⟨tg, iter, ifs, 0⟩] scope pos) sp) (tS X.K fun ρ h => (v' ρ h).then_ fun x h1 => .nxt (ρ.set i (some x)) h1) := by
  refine (ps_setLc (g := gD X.K t t.slots) (tt := tG X.K rB pc.t) (te := tG X.K (rD X.K) p.v) hc hN hy hyl (sw_true hk hyl hl hsh) hi ok (fun s H C cl fp => (hg s H C cl fp).run) ht he hs).imp fun D σ H ⟨ρ, h, J, re, rh, q⟩ => ?_
  rw [hown]
  refine lc_read (hv ?_)
  exact (PostS.step (R1 := rD X.K) (f := v') re rh q).mono fun x H1 ⟨J1, h1, dx, e1, re1, rh1, rx, q1⟩ => q1 J1 H1 _ Ext.refl (re1.set i rx) rh1
end
end PV
end

section
set_option maxRecDepth 100000
namespace PV
open L2 PySem PySem.Spec PyProof.Rows

/-! ### the statements' forms -/
def stAsg : Stmt → Option (Str × Expr)
  | .Assign [.Name y _] e _ => some (y, e)
  | _ => none
def stAsgLc : Stmt → Option (Str × Expr × Expr × Expr × List Expr × Scope)
  | .Assign [.Name y py] (.ListComp elt [⟨tg, iter, ifs, a⟩] scope pos) _ => if a = 0 ∧ (py.line == pos.line) = true then some (y, elt, tg, iter, ifs, scope) else none
  | _ => none
def stPar : Stmt → Option (Str × Str × Expr × Expr)
  | .Assign [.Tuple [.Name x px, .Name y py] _ _] (.Tuple [a, b] _ _) _ => if (py.line == px.line) = true then some (x, y, a, b) else none
  | _ => none
def stUnp : Stmt → Option (List Expr × Expr)
  | .Assign [.Tuple es _ _] e _ => some (es, e)
  | _ => none
def stSto : Stmt → Option (Expr × Expr × Expr)
  | .Assign [.Subscript o i _] e _ => some (o, i, e)
  | _ => none
def stAug : Stmt → Option (Str × Operator × Expr)
  | .AugAssign (.Name y _) op e _ => some (y, op, e)
  | _ => none
def stExp : Stmt → Option Expr
  | .Expr e _ => some e
  | _ => none
def stRet : Stmt → Option Expr
  | .Return (some e) _ => some e
  | _ => none
def stRetN : Stmt → Bool
  | .Return none _ => true
  | _ => false
def stIf : Stmt → Option (Expr × List Stmt × List Stmt)
  | .If c a b _ => some (c, a, b)
  | _ => none
def stWhl : Stmt → Option (Expr × List Stmt)
  | .While c a [] _ => some (c, a)
  | _ => none
def stFor : Stmt → Option (Expr × Expr × List Stmt)
  | .For t i a [] _ => some (t, i, a)
  | _ => none
def stPass : Stmt → Bool
  | .Pass _ => true
  | _ => false
def stBrk : Stmt → Bool
  | .Break _ => true
  | _ => false
def stCnt : Stmt → Bool
  | .Continue _ => true
  | _ => false
section
variable {s : Stmt}
theorem stAsg_eq {y : Str} {e : Expr} (h : stAsg s = some (y, e)) : ∃ p q, s = .Assign [.Name y p] e q := by
  unfold stAsg at h; split at h
  · cases h; exact ⟨_, _, rfl⟩
  · cases h
theorem stAsgLc_eq {y : Str} {elt tg iter : Expr} {ifs : List Expr} {scope : Scope} (h : stAsgLc s = some (y, elt, tg, iter, ifs, scope)) : ∃ py pos q, s = .Assign [.Name y py] (.ListComp elt [⟨tg, iter, ifs, 0⟩] scope pos) q ∧ (py.line == pos.line) = true := by
  unfold stAsgLc at h; split at h
  · split at h
    · rename_i hc; cases h; obtain ⟨rfl, hl⟩ := hc; exact ⟨_, _, _, rfl, hl⟩
    · cases h
  · cases h
theorem stPar_eq {x y : Str} {a b : Expr} (h : stPar s = some (x, y, a, b)) : ∃ px py k tp k2 vp q, s = .Assign [.Tuple [.Name x px, .Name y py] k tp] (.Tuple [a, b] k2 vp) q ∧ (py.line == px.line) = true := by
  unfold stPar at h; split at h
  · split at h
    · rename_i hc; cases h; exact ⟨_, _, _, _, _, _, _, rfl, hc⟩
    · cases h
  · cases h
theorem stUnp_eq {es : List Expr} {e : Expr} (h : stUnp s = some (es, e)) : ∃ k tp q, s = .Assign [.Tuple es k tp] e q := by
  unfold stUnp at h; split at h
  · cases h; exact ⟨_, _, _, rfl⟩
  · cases h
theorem stSto_eq {o i e : Expr} (h : stSto s = some (o, i, e)) : ∃ p q, s = .Assign [.Subscript o i p] e q := by
  unfold stSto at h; split at h
  · cases h; exact ⟨_, _, rfl⟩
  · cases h
theorem stAug_eq {y : Str} {op : Operator} {e : Expr} (h : stAug s = some (y, op, e)) : ∃ p q, s = .AugAssign (.Name y p) op e q := by
  unfold stAug at h; split at h
  · cases h; exact ⟨_, _, rfl⟩
  · cases h
theorem stExp_eq {e : Expr} (h : stExp s = some e) : ∃ q, s = .Expr e q := by
  unfold stExp at h; split at h
  · cases h; exact ⟨_, rfl⟩
  · cases h
theorem stRet_eq {e : Expr} (h : stRet s = some e) : ∃ q, s = .Return (some e) q := by
  unfold stRet at h; split at h
  · cases h; exact ⟨_, rfl⟩
  · cases h
theorem stRetN_eq (h : stRetN s = true) : ∃ q, s = .Return none q := by
  unfold stRetN at h; split at h
  · exact ⟨_, rfl⟩
  · cases h
theorem stIf_eq {c : Expr} {a b : List Stmt} (h : stIf s = some (c, a, b)) : ∃ q, s = .If c a b q := by
  unfold stIf at h; split at h
  · cases h; exact ⟨_, rfl⟩
  · cases h
theorem stWhl_eq {c : Expr} {a : List Stmt} (h : stWhl s = some (c, a)) : ∃ q, s = .While c a [] q := by
  unfold stWhl at h; split at h
  · cases h; exact ⟨_, rfl⟩
  · cases h
theorem stFor_eq {t i : Expr} {a : List Stmt} (h : stFor s = some (t, i, a)) : ∃ q, s = .For t i a [] q := by
  unfold stFor at h; split at h
  · cases h; exact ⟨_, rfl⟩
  · cases h
theorem stPass_eq (h : stPass s = true) : ∃ q, s = .Pass q := by
  unfold stPass at h; split at h
  · exact ⟨_, rfl⟩
  · cases h
theorem stBrk_eq (h : stBrk s = true) : ∃ q, s = .Break q := by
  unfold stBrk at h; split at h
  · exact ⟨_, rfl⟩
  · cases h
theorem stCnt_eq (h : stCnt s = true) : ∃ q, s = .Continue q := by
  unfold stCnt at h; split at h
  · exact ⟨_, rfl⟩
  · cases h
end
def Cs.lcl (c : Cs) (x : Str) : Bool := decide (c.sc.names.lookup x = some .local)
def Cs.isF (c : Cs) : Bool := decide (c.sc.kind = .function)
/-- a list comprehension that is bound to a name -/
def mLc (c : Cs) (y : Str) (elt tg iter : Expr) (ifs : List Expr) (scope : Scope) : E → Bool
  | .lc t it d e => blkC c.N c.sc scope (c.own t) && mI c it tg iter && plainX iter && mT (c.blk scope) t tg && mE (c.blk scope) e elt && (match ifs with
      | [] => d.isMiss
      | [i] => mE (c.blk scope) d i
      | _ => false) && c.isF && c.lcl y && !(scope.names.any fun (n, k) => n == y && (k == .local || k == .cell))
  | _ => false
def E.body : E → E
  | .new e => e
  | e => e
mutual
def mS (c : Cs) : S → Stmt → Bool
  | .asg i e, s => match stAsg s with
    | some (y, x) => c.loc i y && notComp x && mE c e x
    | none => false
  | .asgLc i e, s => match stAsgLc s with
    | some (y, elt, tg, iter, ifs, scope) => decide (c.N[i]? = some y) && mLc c y elt tg iter ifs scope e.body
    | none => false
  | .par i j a b, s => match stPar s with
    | some (x, y, ea, eb) => decide (c.N[i]? = some x) && decide (c.N[j]? = some y) && decide (i ≠ j) && c.isF && c.lcl x && c.lcl y && decide (x ≠ y) && plainX ea && plainX eb && !(foldedForSure 8 ea && foldedForSure 8 eb) && !(constantsAlone 8 ea && constantsAlone 8 eb) && mE c a ea && mE c b eb
    | none => false
  | .unp is e, s => match stUnp s with
    | some (es, x) => mVs c is es && notComp x && (asTup x).isNone && mE c e x
    | none => false
  | .sto o i e, s => match stSto s with
    | some (eo, ei, x) => plainX ei && mE c o eo && mE c i ei && mE c e x
    | none => false
  | .aug i o e, s => match stAug s with
    | some (y, op, x) => c.loc i y && augM o op && mE c e x
    | none => false
  | .augL _ _, _ => false
  | .exp e, s => match stExp s with
    | some x => notComp x && mE c e x
    | none => false
  | .ret e, s => match stRet s with
    | some x => mE c e x
    | none => false
  | .retN, s => stRetN s
  | .ite t a b, s => match stIf s with
    | some (x, as, bs) => mE c t x && mSs c a as && mSs c b bs
    | none => false
  | .whl t b, s => match stWhl s with
    | some (x, bs) => mE c t x && mSs c b bs
    | none => false
  | .for_ t it b, s => match stFor s with
    | some (tg, x, bs) => mT c t tg && mI c it tg x && plainX x && mSs c b bs
    | none => false
  | .pass, s => stPass s
  | .brk, s => stBrk s
  | .cnt, s => stCnt s
  | .gc _ b, s => mS c b s
def mSs (c : Cs) : Ss → List Stmt → Bool
  | .nil, [] => true
  | .cons s ss, st :: sts => mS c s st && mSs c ss sts
  | _, _ => false
end
structure OkS (c : Cs) (F : Fns) (G : List D) (X : Cx) : Prop extends Ok c F G X where
  xe : X.xe = fun _ _ => False
section
variable {c : Cs} {F : Fns} {G : List D} {X : Cx}
theorem lcl_ok (o : Ok c F G X) {x : Str} (h : c.lcl x = true) : X.env.scope.names.lookup x = some .local := by rw [o.sc]; exact of_decide_eq_true h
theorem isF_ok (o : Ok c F G X) (h : c.isF = true) : X.env.scope.kind = .function := by rw [o.sc]; exact of_decide_eq_true h
theorem ss_lc {i : Nat} {y : Str} {py pos sp : Pos} {elt tg iter : Expr} {ifs : List Expr} {scope : Scope} (o : Ok c F G X) : ∀ (e : E) {v' : Env → Hh → R D}, decide (c.N[i]? = some y) = true → mLc c y elt tg iter ifs scope e = true → (py.line == pos.line) = true →
    (∀ {σ : L2.St} {H : Hp} {Q : VK}, tG X.K (rD X.K) v' σ H Q → tF X.K (evE F G e).v σ H Q) →
    PS X (.Assign [.Name y py] (.ListComp elt [⟨tg, iter, ifs, 0⟩] scope pos) sp) (tS X.K fun ρ h => (v' ρ h).then_ fun x h1 => .nxt (ρ.set i (some x)) h1)
  | .lc t it d e, v', hn, h, hl, hv => by
    simp only [mLc, Bool.and_eq_true, Bool.not_eq_true'] at h
    (obtain ⟨⟨⟨⟨⟨⟨⟨⟨h1, h2⟩, h3⟩, h4⟩, h5⟩, h6⟩, h7⟩, h8⟩, h9⟩ := h)
    refine ss_asgLc (pc := evE F G d) (p := evE F G e) o.calm o.nd (by rw [o.hN]; exact of_decide_eq_true hn) (lcl_ok o h8) (isF_ok o h7) hl h9 (sI it o _ _ h2) (blkOk_by (by rw [o.hN, o.sc]; exact h1)) (own_snd t) (fun s H C cl fp => st_ok o.blk h4) (fun s H C cl fp => ?_) (fun s H C cl fp => (sE e o.blk _ h5).v) (plain_fold h3 _) hv
    split at h6
    · cases d with
      | miss => exact ⟨fun pins s σ H Q I ⟨ρ, h, J, re, rh, q⟩ => pts_nil.run pins s σ H Q I (q J H true Ext.refl rh rfl)⟩
      | _ => cases h6
    · exact pts_one (sE d o.blk _ h6).t
    · cases h6
  | .var _, _, _, h, _, _ => by cases h
  | .con _, _, _, h, _, _ => by cases h
  | .glo _, _, _, h, _, _ => by cases h
  | .miss, _, _, h, _, _ => by cases h
  | .tup _, _, _, h, _, _ => by cases h
  | .lst _, _, _, h, _, _ => by cases h
  | .new _, _, _, h, _, _ => by cases h
  | .dic0, _, _, h, _, _ => by cases h
  | .bin _ _ _, _, _, h, _, _ => by cases h
  | .neg _, _, _, h, _, _ => by cases h
  | .cmp _ _ _, _, _, h, _, _ => by cases h
  | .chain _ _ _ _ _, _, _, h, _, _ => by cases h
  | .and _ _, _, _, h, _, _ => by cases h
  | .or _ _, _, _, h, _, _ => by cases h
  | .not _, _, _, h, _, _ => by cases h
  | .ite _ _ _, _, _, h, _, _ => by cases h
  | .idx _ _, _, _, h, _, _ => by cases h
  | .slc _ _ _, _, _, h, _, _ => by cases h
  | .call _ _, _, _, h, _, _ => by cases h
  | .callK _ _ _ _, _, _, h, _, _ => by cases h
  | .isi _ _, _, _, h, _, _ => by cases h
  | .tenum _, _, _, h, _, _ => by cases h
  | .mth _ _ _, _, _, h, _, _ => by cases h
  | .bf _ _, _, _, h, _, _ => by cases h
theorem lc_lst2 : ∀ (e : E) {y : Str} {elt tg iter : Expr} {ifs : List Expr} {scope : Scope}, mLc c y elt tg iter ifs scope e = true → ∀ ρ h d h', (evE F G e).v ρ h = .ok d h' → ∃ ds, d = .lst ds := by
  intro e y elt tg iter ifs scope h
  cases e with
  | lc t it d e => exact fun ρ h d h' ev => lc_lst _ _ _ _ ev
  | _ => cases h
mutual
theorem sS : ∀ (t : S) (o : OkS c F G X) (x : Stmt), mS c t x = true → PS X x (tS X.K (evS F G t))
  | .asg i e, o, x, h => by
    simp only [mS] at h
    split at h
    · rename_i y z hy
      obtain ⟨p, q, rfl⟩ := stAsg_eq hy
      (simp only [Bool.and_eq_true] at h)
      obtain ⟨h1, h2, h3⟩ := loc_ok o.toOk h.1.1
      exact ss_asg o.nd h1 h2 h3 h.1.2 (sE e o.toOk _ h.2)
    · cases h
  | .asgLc i e, o, x, h => by
    simp only [mS] at h
    split at h
    · rename_i y elt tg iter ifs scope hy
      obtain ⟨py, pos, q, rfl, hl⟩ := stAsgLc_eq hy
      (simp only [Bool.and_eq_true] at h)
      cases e with
      | new e => exact ss_lc o.toOk e h.1 h.2 hl fun t => tF_new t
      | lc t it d e => exact ss_lc o.toOk (.lc t it d e) h.1 h.2 hl fun t => tF_of (lc_lst2 _ h.2) t
      | _ => cases h.2
    · cases h
  | .par i j a b, o, x, h => by
    simp only [mS] at h
    split at h
    · rename_i x y ea eb hy
      obtain ⟨px, py, k, tp, k2, vp, q, rfl, hl⟩ := stPar_eq hy
      simp only [Bool.and_eq_true, decide_eq_true_eq, Bool.not_eq_true'] at h
      obtain ⟨⟨⟨⟨⟨⟨⟨⟨⟨⟨⟨⟨h1, h2⟩, h3⟩, h4⟩, h5⟩, h6⟩, h7⟩, h8⟩, h9⟩, h10⟩, h11⟩, h12⟩, h13⟩ := h
      exact ss_par o.calm o.nd (by rw [o.hN]; exact h1) (by rw [o.hN]; exact h2) h3 (isF_ok o.toOk h4) (lcl_ok o.toOk h5) (lcl_ok o.toOk h6) h7 hl h8 h9 h10 h11 (sE a o.toOk _ h12) (sE b o.toOk _ h13)
    · cases h
  | .unp is e, o, x, h => by
    simp only [mS] at h
    split at h
    · rename_i es z hy
      obtain ⟨k, tp, q, rfl⟩ := stUnp_eq hy
      simp only [Bool.and_eq_true, Option.isNone_iff_eq_none] at h
      exact ss_unp o.calm (svs_ok o.toOk h.1.1.1) h.1.1.2 h.1.2 (sE e o.toOk _ h.2)
    · cases h
  | .sto a i e, o, x, h => by
    simp only [mS] at h
    split at h
    · rename_i ea ei z hy
      obtain ⟨p, q, rfl⟩ := stSto_eq hy
      (simp only [Bool.and_eq_true] at h)
      exact ss_sto o.units h.1.1.1 (sE a o.toOk _ h.1.1.2) (sE i o.toOk _ h.1.2) (sE e o.toOk _ h.2)
    · cases h
  | .aug i op e, o, x, h => by
    simp only [mS] at h
    split at h
    · rename_i y p z hy
      obtain ⟨q, r, rfl⟩ := stAug_eq hy
      (simp only [Bool.and_eq_true] at h)
      obtain ⟨h1, h2, h3⟩ := loc_ok o.toOk h.1.1
      exact ss_aug o.nd h1 h2 h3 h.1.2 (sE e o.toOk _ h.2)
    · cases h
  | .augL _ _, o, x, h => by cases h
  | .exp e, o, x, h => by
    simp only [mS] at h
    split at h
    · rename_i z hy
      obtain ⟨q, rfl⟩ := stExp_eq hy
      (simp only [Bool.and_eq_true] at h)
      exact ss_exp h.1 (sE e o.toOk _ h.2)
    · cases h
  | .ret e, o, x, h => by
    simp only [mS] at h
    split at h
    · rename_i z hy
      obtain ⟨q, rfl⟩ := stRet_eq hy
      exact ss_ret (sE e o.toOk _ h)
    · cases h
  | .retN, o, x, h => by obtain ⟨q, rfl⟩ := stRetN_eq h; exact ss_retN
  | .ite t a b, o, x, h => by
    simp only [mS] at h
    split at h
    · rename_i z as bs hy
      obtain ⟨q, rfl⟩ := stIf_eq hy
      (simp only [Bool.and_eq_true] at h)
      exact ss_if (sE t o.toOk _ h.1.1) (sSs a o _ h.1.2) (sSs b o _ h.2)
    · cases h
  | .whl t b, o, x, h => by
    simp only [mS] at h
    split at h
    · rename_i z bs hy
      obtain ⟨q, rfl⟩ := stWhl_eq hy
      (simp only [Bool.and_eq_true] at h)
      exact ss_whl o.xe (sE t o.toOk _ h.1) (sSs b o _ h.2)
    · cases h
  | .for_ t it b, o, x, h => by
    simp only [mS] at h
    split at h
    · rename_i tg z bs hy
      obtain ⟨q, rfl⟩ := stFor_eq hy
      (simp only [Bool.and_eq_true] at h)
      exact ss_for o.xe o.calm (sI it o.toOk _ _ h.1.1.2) (st_ok o.toOk h.1.1.1) (sSs b o _ h.2) h.1.2
    · cases h
  | .pass, o, x, h => by obtain ⟨q, rfl⟩ := stPass_eq h; exact ss_pass
  | .brk, o, x, h => by obtain ⟨q, rfl⟩ := stBrk_eq h; exact ss_brk
  | .cnt, o, x, h => by obtain ⟨q, rfl⟩ := stCnt_eq h; exact ss_cnt
  | .gc ks b, o, x, h => (sS b o x h).imp fun D σ H ⟨ρ, h, J, re, rh, q⟩ => ⟨ρ, h, J, re, rh, q.gc rh⟩
theorem sSs : ∀ (t : Ss) (o : OkS c F G X) (xs : List Stmt), mSs c t xs = true → PSs X xs (tS X.K (evSs F G t))
  | .nil, o, [], h => ss_nil
  | .nil, o, _ :: _, h => by cases h
  | .cons _ _, o, [], h => by cases h
  | .cons s ss, o, x :: xs, h => by
    simp only [mSs, Bool.and_eq_true] at h
    exact ss_cons (sS s o _ h.1) (sSs ss o _ h.2)
end
end
end PV
end

section
set_option maxRecDepth 100000
namespace PV
open L2 PySem PySem.Spec PyProof.Rows

/-! ### a def's end -/
section
variable {K : PySem.W.Frag} {J J' : Jn} {H H' : Hp} {h h' : Hh}
theorem frz_rd {n : Nat} (rh : RH K J h H) : ∀ (k : Nat) (d : D) (v : V), RD K J H d v → (d.frz h n k).rlt n = true → RD K (J.cut n) H (d.frz h n k) v
  | 0, d, v, r, e => r.cut e
  | k + 1, d, v, r, e => by
    have i1 := frz_rd rh (n := n) k
    have i2 : ∀ (ds : List D) (vs : List V), RDs K J H ds vs → D.rlts n (ds.map (D.frz h n k)) = true → RDs K (J.cut n) H (ds.map (D.frz h n k)) vs := by
      intro ds
      induction ds with
      | nil => intro vs r e; cases r; exact .nil
      | cons x xs ih =>
        intro vs r e
        cases r with
        | cons rx rr =>
          simp only [List.map_cons, D.rlts, Bool.and_eq_true] at e
          exact .cons (i1 _ _ rx e.1) (ih _ rr e.2)
    cases d with
    | ref i =>
      simp only [D.frz] at e ⊢
      split at e
      · rename_i hi
        rw [if_pos hi]; exact r.cut e
      · rename_i hi
        rw [if_neg hi]
        cases r with
        | @ref _ a q =>
          obtain ⟨o, u, h1, h2, h3⟩ := rh.at q
          rw [h1] at e ⊢
          cases h3 with
          | @lst ds vs z rr =>
            refine .lst (fun hm => ?_) (fun hm => rh.apart a hm (List.mem_of_getElem? q)) h2 z (i2 _ _ rr e)
            obtain ⟨j, hj⟩ := List.mem_iff_getElem?.mp hm
            have hjn : j < n := by
              have := (List.getElem?_eq_some_iff.mp hj).1
              simp only [List.length_take] at this; omega
            have hj' : J.l[j]? = some a := by
              have hj2 : (J.l.take n)[j]? = some a := hj
              rwa [List.getElem?_take_of_lt hjn] at hj2
            obtain ⟨l1, e1⟩ := List.getElem?_eq_some_iff.mp q
            obtain ⟨l2, e2⟩ := List.getElem?_eq_some_iff.mp hj'
            have := (List.getElem_inj rh.nd).mp (e1.trans e2.symm)
            omega
          | dct z rr => exact absurd (of_decide_eq_true e) hi
    | tup xs =>
      cases r with
      | tup a m q z r => exact .tup (fun hm => a (List.mem_of_mem_take hm)) m q z (i2 _ _ r e)
      | ktup kk z r => exact .ktup kk z (i2 _ _ r e)
    | lst xs =>
      cases r with
      | lst a m q z r => exact .lst (fun hm => a (List.mem_of_mem_take hm)) m q z (i2 _ _ r e)
    | non => exact r.cut e
    | bl b => exact r.cut e
    | int i => exact r.cut e
    | str x => exact r.cut e
    | fz xs => exact r.cut e
theorem finD_post {f : Bool} {d : D} {h2 : Hh} {Q : VK} (rh : RH K J h H) (p : Post K J H (rD K) (finD f h.length d h2) Q) : ∀ J' H' v, Ext J H J' H' → RH K J' h2 H' → RD K J' H' d v → Q v H' := by
  intro J' H' v e rh' rv
  unfold finD at p
  cases f with
  | false => exact p J' H' v e rh' rv
  | true =>
    simp only [if_true] at p
    split at p
    · rename_i hc
      (simp only [Bool.and_eq_true] at hc)
      have hle : h.length ≤ h2.length := by
        obtain ⟨m, hm, _⟩ := e.pre
        rw [← rh'.len, ← rh.len, hm, List.length_append]; omega
      exact p _ H' v (e.cut rh) (rh'.cut hle hc.2) (frz_rd rh' 4 _ _ rv hc.1)
    · exact p.elim
theorem finR_post {f : Bool} {r : RS} {Q : VK} (rh : RH K J h H) (p : Post K J H (rD K) (finR f h.length r) Q) : PostS K J H r { nx := fun _ H' => Q .non H', rt := Q } := by
  cases r with
  | ret d h2 => exact finD_post rh p
  | nxt ρ h2 => exact fun J' H' σ e re rh' => finD_post rh p J' H' .non e rh' .non
  | bad => exact p
  | brk _ _ => exact False.elim p
  | cnt _ _ => exact False.elim p
  | err _ _ => exact False.elim p
theorem re_start {N : List Str} {ds : List D} {vs : List V} (r : RDs K J H ds vs) : RE K J H (ds.map some ++ List.replicate (N.length - ds.length) none) (L2.start N vs) := by
  refine ⟨by simp [L2.start, r.length], fun i d q => ?_⟩
  by_cases hi : i < ds.length
  · rw [List.getElem?_append_left (by simpa using hi), List.getElem?_map] at q
    cases hd : ds[i]? with
    | none => rw [hd] at q; cases q
    | some d' =>
      rw [hd] at q; cases q
      obtain ⟨v, h1, h2⟩ := r.get hd
      refine ⟨v, ?_, h2⟩
      have hv : i < vs.length := (List.getElem?_eq_some_iff.mp h1).1
      unfold L2.start
      rw [List.getElem?_append_left (by simpa using hv), List.getElem?_map, h1]; rfl
  · rw [List.getElem?_append_right (by simp; omega)] at q
    rw [List.getElem?_replicate] at q
    split at q <;> cases q
end

/-! ### a def by its body, where no repr is under way -/
section
variable {P : Program} {w : World} {K : PySem.W.Frag} {mg : Str → Option Value} {base : Heap} {params : Arguments} {body : List Stmt} {scope : Scope}
theorem deeper_guards (A : Around) (env : PySem.Env) : (A.deeper env).guards = A.guards := rfl
theorem fnG_of {x : Str} {a : Addr} {fd : FuncData} {N ps : List Str} {k : Nat} {sp : Sp} (F : FunD K x x params body scope [] [] a fd) (S : FnScope N ps scope) (len : ∀ vs H Q E, sp vs H Q E → vs.length = ps.length)
    (hb : ∀ (cd : Value) (A : Around) (out : List PySem.Env) (s : Shared) (H : Hp) (vs : List V) (Q : VK), Room k (A.deeper (envOfC x scope s.heap.objs.size a cd)) → A.guards = some [] → sp vs H Q E0 →
      ∃ t, PSs (cxOf CX0 P w K mg base N x scope a cd A out s H E0).nox body t ∧ t { nx := fun _ H' => Q .non H', rt := Q } (L2.start N vs) H) : FnG P w K mg base (k + 1) a fd ps sp := by
  (obtain ⟨oc, od, dV, kV, doc, pm, an, cdv, ct, osl, rfl, lk, hcd, _, _⟩ := F.ex)
  refine ⟨len, fun {A out s H args us vs Q} hr hgd e0 hbd r hsp => ?_⟩
  have inK : K.In s.heap := e0.mod.kin.keeps fun b o e => (e0.bs b o e).1
  have noLim : s.heap.NoLimit := e0.mod.nolimit.keeps fun b o e => (e0.bs b o e).1
  refine codeAny_call_function hr.depth (inK _ _ lk) rfl S.co S.gen rfl (PySem.W.codeRec_of inK hcd) (hbd _ _ _ _ ?_)
  refine wpAny_newFunctionEnv_cells S.kind (fun y hy => ?_) fun env he s1 x1 => ?_
  · have hy1 := (List.of_mem_zip (show (y.1, y.2) ∈ ps.zip us from hy)).1
    cases S.par y.1 hy1 with
    | inl q => exact .inl q
    | inr q => exact .inr ⟨q, PySem.W.cellsFrom_some _ _ _ (.inl q)⟩
  · subst he
    refine ⟨noLim.keeps x1.toInCall.keep, codeAny_func ?_⟩
    obtain ⟨t, ht, hq⟩ := hb cdv A out s H vs Q (hr.deeper _) hgd hsp
    have I : L2.Inv (cxOf CX0 P w K mg base N x scope a cdv A out s H E0) [] (L2.start N vs) H s1 := inv_start S hr.hd e0 (len _ _ _ _ hsp) r x1
    refine wpAny_mono (ht.nox.run [] s1 (L2.start N vs) H _ I hq) (fun fl s' hs => ?_) fun e s' hs => hs
    cases fl with
    | ret u => obtain ⟨v, σ', H', I', rv, q⟩ := hs; exact ⟨v, H', I'.os, I'.bare, I'.base, I'.hok, rv, q⟩
    | next => obtain ⟨σ', H', I', q⟩ := hs; exact ⟨.non, H', I'.os, I'.bare, I'.base, I'.hok, rfl, q⟩
    | brk => obtain ⟨_, _, _, q⟩ := hs; exact q.elim
    | cont => obtain ⟨_, _, _, q⟩ := hs; exact q.elim
end

/-! ### the table of the defs -/
/-- what is known of a def of the table: where it stands, its text -/
structure DefOk (K : PySem.W.Frag) (mg : Str → Option Value) (bs gn : List Str) (T : List Fn) (fn : Fn) (params : Arguments) (body : List Stmt) (scope : Scope) : Prop where
  sc : FnScope fn.N fn.P scope
  ok : mSs ⟨fn.N, scope, fun _ => true, bs, T, gn⟩ fn.body body = true
  ex : ∃ a fd, FunD K fn.name fn.name params body scope [] [] a fd ∧ mg fn.name = some (.ref a) ∧ L2.Binds K fd fn.P [] ∧ ∀ q ∈ fn.kw, KwOk K fd fn.P q.1 q.2.1 q.2.2
section
variable {P : Program} {w : World} {K : PySem.W.Frag} {mg : Str → Option Value} {base : Heap} {T : List Fn} {bs gn : List Str} {G : List D}
def TabAt (P : Program) (w : World) (K : PySem.W.Frag) (mg : Str → Option Value) (base : Heap) (T : List Fn) (G : List D) (k : Nat) : Prop := ∀ (f : Nat) (fn : Fn), T[f]? = some fn →
    ∃ a fd, mg fn.name = some (.ref a) ∧ PySem.W.keepIn K (.ref a) = true ∧ FnG P w K mg base k a fd fn.P (spF K (callN T G k) f fn.P.length) ∧ L2.Binds K fd fn.P [] ∧ ∀ q ∈ fn.kw, KwOk K fd fn.P q.1 q.2.1 q.2.2
/-- one def more deep -/
theorem def_step (hb : ∀ x ∈ bs, mg x = none) (hg : ∀ (i : Nat) (x : Str) (d : D), gn[i]? = some x → G[i]? = some d → ∃ v u, mg x = some u ∧ L2.RelV v u ∧ ∀ J H, RD K J H d v) {k f : Nat} {fn : Fn} {params : Arguments} {body : List Stmt} {scope : Scope} {a : Addr} {fd : FuncData}
    (IH : TabAt P w K mg base T G k) (hf : T[f]? = some fn) (sc : FnScope fn.N fn.P scope) (ok : mSs ⟨fn.N, scope, fun _ => true, bs, T, gn⟩ fn.body body = true) (fu : FunD K fn.name fn.name params body scope [] [] a fd) :
    FnG P w K mg base (k + 1) a fd fn.P (spF K (callN T G (k + 1)) f fn.P.length) := by
  unfold TabAt at IH
  refine fnG_of fu sc (fun vs H Q E h => h.1) (fun cdv A outer s H vs Q hr hgd hsp => ⟨tS K (evSs (callN T G k) G fn.body), ?_, ?_⟩)
  · exact sSs fn.body (c := ⟨fn.N, scope, fun _ => true, bs, T, gn⟩) ⟨⟨rfl, sc.nd, rfl, rfl, rfl, ⟨k, hr, hgd, IH⟩, hb, hg⟩, rfl⟩ body ok
  · obtain ⟨hl, J, h, ds, rs, rh, q⟩ := hsp
    have q : Post K J H (rD K) (match T[f]? with
      | none => .bad
      | some fn => if ds.length = fn.P.length then finR fn.frz h.length (evSs (callN T G k) G fn.body (ds.map some ++ List.replicate (fn.N.length - ds.length) none) h) else .bad) Q := q
    rw [hf] at q
    dsimp only at q
    rw [if_pos (by rw [rs.length]; exact hl)] at q
    exact ⟨_, h, J, re_start rs, rh, finR_post rh q⟩
theorem tab_ok (hT : ∀ (f : Nat) (fn : Fn), T[f]? = some fn → ∃ params body scope, DefOk K mg bs gn T fn params body scope) (hb : ∀ x ∈ bs, mg x = none)
    (hg : ∀ (i : Nat) (x : Str) (d : D), gn[i]? = some x → G[i]? = some d → ∃ v u, mg x = some u ∧ L2.RelV v u ∧ ∀ J H, RD K J H d v) : ∀ (k : Nat), TabAt P w K mg base T G k
  | 0, f, fn, hf => by
    obtain ⟨params, body, scope, d⟩ := hT f fn hf
    obtain ⟨a, fd, fu, hm, hbd, hkw⟩ := d.ex
    refine ⟨a, fd, hm, fu.kp, ⟨fun vs H Q E h => h.1, fun {A out s H args us vs Q} hr hgd e0 hb' r hsp => ?_⟩, hbd, hkw⟩
    obtain ⟨_, J, h, ds, _, _, q⟩ := hsp
    exact False.elim q
  | k + 1, f, fn, hf => by
    obtain ⟨params, body, scope, d⟩ := hT f fn hf
    obtain ⟨a, fd, fu, hm, hbd, hkw⟩ := d.ex
    exact ⟨a, fd, hm, fu.kp, def_step hb hg (tab_ok hT hb hg k) hf d.sc d.ok fu, hbd, hkw⟩
/-- a call with keywords -/
theorem kw_mk {x qual : Str} {params : Arguments} {body : List Stmt} {scope : Scope} {a : Addr} {fd : FuncData} {ps : List Str} {n : Nat} {ks : List Str} {pm : List Nat} (fu : FunD K x qual params body scope [] [] a fd) (hl : pm.length = ps.length)
    (h : ∀ (kV doc pmv : Value) (an : Option Addr) (cdv ct : Value) (us ws : List Value), us.length = n → ws.length = ks.length → bindArgs (PySem.W.fnOf x qual params body scope .none kV doc pmv an cdv ct) ⟨us, ks.zip ws⟩ = pure (ps.zip (pmD .none pm us ws))) : KwOk K fd ps n ks pm := by
  obtain ⟨oc, od, dV, kV, doc, pmv, an, cdv, ct, osl, rfl, lk, hcd, hD, hK⟩ := fu.ex
  (rcases hD with ⟨_, rfl⟩ | ⟨e, _⟩)
  · exact ⟨fun s us ws _ h1 h2 => .of_eq (h kV doc pmv an cdv ct us ws h1 h2), hl⟩
  · exact absurd rfl e
/-- the law: what the evaluator says of it holds -/
theorem law_sp {f n k : Nat} {fn : Fn} (hf : T[f]? = some fn) (hp : fn.P.length = 1) (hev : ∀ ns : List Int, ns.length ≤ n → ∃ h, callN T G k f [.fz (ns.map D.int)] [] = .ok (.bl true) h) (hn : n ≤ sizeLine) (H : Hp) (a : Addr) (ns : List Int) (hl : ns.length ≤ n) (hO : Only H) (hS : SqL K H a (ns.map V.int)) :
    spF K (callN T G k) f fn.P.length [.ref a] H (fun v _ => v = .bl true) fun _ _ _ => False := by
  refine ⟨hp.symm, ⟨[], []⟩, [], [.fz (ns.map D.int)], .cons ?_ .nil, ⟨List.nodup_nil, rfl, fun i o e => by simp at e, fun a ha => (by cases ha), fun a ha => (by cases ha)⟩, ?_⟩
  · have rs : ∀ ns : List Int, RDs K ⟨[], []⟩ H (ns.map D.int) (ns.map V.int) := by
      intro ns
      induction ns with
      | nil => exact .nil
      | cons i r ih => exact .cons (.int i) ih
    have hz : (ns.map V.int).length ≤ sizeLine := by rw [List.length_map]; omega
    rcases hS with hS | hS
    · rcases hO a with e | ⟨o, xs, e⟩
      · rcases hS with q | ⟨_, q⟩ <;> rw [e] at q <;> cases q
      · rcases hS with q | ⟨o', q⟩
        · rw [e] at q; cases q
        · exact .fz (fun hm => by cases hm) (fun hm => by cases hm) q hz (rs ns)
    · exact .kfz hS hz (rs ns)
  · obtain ⟨h, e⟩ := hev ns hl
    rw [e]
    intro J' H' b _ _ rv
    cases rv; rfl

/-! ### the law's call -/
theorem law_g {mb : Str → Option Value} {k : Nat} {fa a : Addr} {fd : FuncData} {x : Str} {sp : Sp} {s1 : Shared} {vs : List Value} {ns : List Int}
    (kx : K.In s1.heap) (hm : s1.heap.Ns mainGlobals mg) (hbn : s1.heap.Ns builtinsNs mb) (hbb : ∀ y : Str, y ≠ "__name__" → mb y = bootBuiltins y) (hlim : s1.heap.NoLimit) (hgn : s1.gens = #[])
    (ha : s1.heap.get? a = some { cls := .type "list", data := .seq vs.toArray }) (hi : IntsAre vs ns) (hl : ns.length ≤ sizeLine) (hr : Room k callerA)
    (hF : ∀ base : Heap, K.In base → base.Ns mainGlobals mg → FnG P w K mg base k fa fd [x] sp) (hbd : ∀ (s : Shared) (u : Value), BindsTo s fd ⟨[u], []⟩ [(x, u)])
    (hsp : ∀ H : Hp, Only H → SqL K H a (ns.map V.int) → sp [.ref a] H (fun v _ => v = .bl true) E0) :
    codeAny (model P w) callerA (.call (.ref fa) ⟨[.ref a], []⟩) (fun r s' => r = .ok (.ret (.bool true)) ∧ OldK s1.heap s'.heap ∧ s'.os = s1.os ∧ AllBare s'.gens) s1 := by
  have rv : Vals (ns.map V.int) vs := vals_ints hi
  have hlen := hi.length
  have main : ∀ H : Hp, Only H → SqL K H a (ns.map V.int) → HOk P w H s1.heap → (∀ b, H b ≠ none → b = a ∧ K.lookup a = none) →
      codeAny (model P w) callerA (.call (.ref fa) ⟨[.ref a], []⟩) (fun r s' => r = .ok (.ret (.bool true)) ∧ OldK s1.heap s'.heap ∧ s'.os = s1.os ∧ AllBare s'.gens) s1 := by
    intro H only seq ok own
    have keep : ∀ {b : Addr} {o : Obj}, s1.heap.get? b = some o → H b = none → (hidT s1.heap H).get? b = some o := fun e n => hidT_get e n
    have dictFree : ∀ {b : Addr} {o : Obj} {es : Array DictEntry} {n : Nat}, s1.heap.get? b = some o → o.data = .dict es n → H b = none := by
      intro b o es n e d
      cases hq : H b with
      | none => rfl
      | some u =>
        obtain rfl := (own b (by rw [hq]; exact Option.some_ne_none u)).1
        rw [ha] at e; cases e; cases d
    have names : ∀ {b : Addr} {m : Str → Option Value}, s1.heap.Ns b m → (hidT s1.heap H).Ns b m := by
      rintro b m ⟨o, es, n, e, d, q⟩
      exact ⟨o, es, n, keep e (dictFree e d), d, q⟩
    have kIn : K.In (hidT s1.heap H) := by
      intro b o e
      refine keep (kx b o e) ?_
      cases hq : H b with
      | none => rfl
      | some u =>
        obtain ⟨rfl, hk⟩ := own b (by rw [hq]; exact Option.some_ne_none u)
        rw [hk] at e; cases e
    obtain ⟨mc, c1, c2⟩ := hlim
    have env : Env0 P w K mg (hidT s1.heap H) callerA [] s1 H :=
      ⟨rfl, ⟨kIn, names hm, ⟨mb, names hbn, hbb⟩, ⟨mc, names c1, c2⟩⟩, fun b o e => of_hidT e, Nat.le_of_eq (hidT_size _ _), trivial, fun b hb => (List.not_mem_nil hb).elim, ok, .of_eq hgn⟩
    refine codeAny_mono ((hF _ kIn (names hm)).go (us := [.ref a]) (vs := [.ref a]) hr rfl env (hbd s1 (.ref a)) (.cons rfl .nil) (hsp H only seq)) fun r s' hq => ?_
    cases r with
    | error e => exact (False.elim hq)
    | ok fl =>
      cases fl with
      | next => exact False.elim hq
      | brk => exact False.elim hq
      | cont => exact False.elim hq
      | ret u =>
        obtain ⟨v, H', os, bare, un, ok', ru, rfl⟩ := hq
        cases (show u = Value.bool true from ru)
        (refine ⟨rfl, OldK.of_keep fun b o e => ?_, os, bare⟩)
        cases hb : H b with
        | none => exact un.keep b o e hb (fun z => List.not_mem_nil z) (by simp)
        | some u =>
          rcases only b with z | ⟨ob, xs, z⟩
          · rw [hb] at z; cases z
          · have e1 := (ok b _ z).1
            have e2 := (ok' b _ (un.frzs b ob _ z)).1
            rw [e] at e1; cases e1; exact e2
  cases hk : K.lookup a with
  | some o =>
    have e := kx a o hk
    rw [ha] at e; cases e
    exact main (fun _ => none) (fun _ => .inl rfl) (.inr ⟨_, vs.toArray, _, hk, rfl, rfl, rfl, by simpa [hlen] using hl, by simpa using rv⟩) (fun b u z => by cases z) fun b z => absurd rfl z
  | none =>
    let H : Hp := upd (fun _ => none) a (.frz { cls := .type "list", data := .seq vs.toArray } (.lst (ns.map V.int)))
    have ne : ∀ {b : Addr}, b ≠ a → H b = none := fun hb => upd_ne hb
    refine main H (fun b => ?_) (.inl (.inr ⟨_, upd_same⟩)) (fun b u z => ?_) fun b z => ?_
    · by_cases hb : b = a
      · subst hb; exact .inr ⟨_, _, upd_same⟩
      · exact .inl (ne hb)
    · by_cases hb : b = a
      · subst hb
        have z' : some _ = some u := upd_same.symm.trans z
        cases z'
        (exact ⟨ha, by rw [List.length_map]; exact hl, vs, _, rv, ha⟩)
      · rw [ne hb] at z; cases z
    · by_cases hb : b = a
      · exact ⟨hb, hk⟩
      · exact absurd (ne hb) z
end
/-- a law over the evaluator -/
theorem walk_g {l : PySem.W.OpenLaw} {n k : Nat} {q : Program} {loose : List Str} {XP : (Str → Option Value) → Heap → Prop} {YP : World → Heap → Prop} {d : DefRec} {x : Str}
    (hn : l.most = some n) (hn2 : n ≤ sizeLine)
    (hdf : d.params.defaults = []) (hr : Room k callerA)
    (hF : ∀ (w : World) (mg : Str → Option Value) (fa : Addr) (h : Heap), YP w h → h.Ns mainGlobals mg → mg d.name = some (.ref fa) →
      ∃ (K : PySem.W.Frag) (fd : FuncData) (sp : Sp), K.In h ∧
        (∀ (s : Shared) (u : Value), BindsTo s fd ⟨[u], []⟩ [(x, u)]) ∧
        (∀ (H : Hp) (a : Addr) (ns : List Int), ns.length ≤ n → Only H → SqL K H a (ns.map V.int) → sp [.ref a] H (fun v _ => v = .bl true) E0) ∧
        ∀ base : Heap, K.In base → base.Ns mainGlobals mg → FnG l.prog w K mg base k fa fd [x] sp) :
    (PySem.W.WalkO q loose XP YP l.row.toRowW d [] (fun f vs => PySem.call f vs)) := by
  refine Att.attach_call hn hdf fun w t0 t1 mg mb fa o pm cd doc a vs ns W Y ho hd hcd hmg hobj hints hlen hgn => ?_
  obtain ⟨K, fd, sp, kx, hbd, hsp, go⟩ := hF w mg fa _ Y W.T.g hmg
  exact law_g kx W.T.g W.T.b W.T.builtins W.T.nolimit hgn hobj hints (Nat.le_trans hlen hn2) hr go hbd fun H only seq => hsp H a ns hlen only seq
end PV
end

section
set_option maxRecDepth 100000
namespace K44
open PySem PySem.Spec PyProof.Rows L2 PV
def i_insides_0 : I := .ev (.idx (.var 0) (.con (.int 1)))
def x_insides_0 : E := .var 2
def c_insides_0 : E := .miss
def e_insides_0 : E := .lc (.tu [2, 3]) i_insides_0 c_insides_0 x_insides_0
def i_insides_1 : I := .ev (.idx (.var 0) (.con (.int 2)))
def x_insides_1 : E := .var 2
def c_insides_1 : E := .miss
def e_insides_1 : E := .lc (.tu [4, 2]) i_insides_1 c_insides_1 x_insides_1
def b_insides : Ss := .cons (.asg 1 (.idx (.var 0) (.con (.int 0)))) (.cons (.ite (.cmp .inn (.var 1) (.tup (.cons (.con (.str "cell")) (.cons (.con (.str "some")) (.cons (.con (.str "rec")) .nil))))) (.cons (.ret (.tup (.cons (.idx (.var 0) (.con (.int 1))) .nil))) .nil) (.nil)) (.cons (.ite (.cmp .inn (.var 1) (.tup (.cons (.con (.str "row")) (.cons (.con (.str "one")) .nil)))) (.cons (.ret (.idx (.var 0) (.con (.int 1)))) .nil) (.nil)) (.cons (.ite (.cmp .eq (.var 1) (.con (.str "room"))) (.cons (.ret (.bf .tuple (.cons (e_insides_0) .nil))) .nil) (.nil)) (.cons (.ite (.cmp .eq (.var 1) (.con (.str "code"))) (.cons (.ret (.bf .tuple (.cons (e_insides_1) .nil))) .nil) (.nil)) (.cons (.ite (.cmp .eq (.var 1) (.con (.str "to"))) (.cons (.ret (.bin .add (.idx (.var 0) (.con (.int 2))) (.tup (.cons (.idx (.var 0) (.con (.int 3))) .nil)))) .nil) (.nil)) (.cons (.ret (.ite (.cmp .eq (.var 1) (.con (.str "not"))) (.idx (.var 0) (.con (.int 2))) (.tup (.nil)))) .nil))))))
def f_insides : Fn := { name := "insides", N := ["kind", "word", "k", "is_set", "spot"], P := ["kind"], frz := false, body := b_insides }
def b_binds : Ss := .cons (.ite (.cmp .inn (.idx (.var 0) (.con (.int 0))) (.tup (.cons (.con (.str "some")) (.cons (.con (.str "rec")) .nil)))) (.cons (.ret (.con (.int 1))) .nil) (.nil)) (.cons (.ret (.ite (.cmp .inn (.idx (.var 0) (.con (.int 0))) (.tup (.cons (.con (.str "not")) (.cons (.con (.str "to")) (.cons (.con (.str "code")) .nil))))) (.idx (.var 0) (.con (.int 1))) (.con (.int 0)))) .nil)
def f_binds : Fn := { name := "binds", N := ["kind"], P := ["kind"], frz := false, body := b_binds }
def i_with_insides_0 : I := .zip (.var 1) (.idx (.var 0) (.con (.int 1)))
def x_with_insides_0 : E := .tup (.cons (.var 3) (.cons (.idx (.var 4) (.con (.int 1))) .nil))
def c_with_insides_0 : E := .miss
def e_with_insides_0 : E := .lc (.tu [3, 4]) i_with_insides_0 c_with_insides_0 x_with_insides_0
def i_with_insides_1 : I := .zip (.var 1) (.idx (.var 0) (.con (.int 2)))
def x_with_insides_1 : E := .tup (.cons (.idx (.var 4) (.con (.int 0))) (.cons (.var 3) .nil))
def c_with_insides_1 : E := .miss
def e_with_insides_1 : E := .lc (.tu [3, 4]) i_with_insides_1 c_with_insides_1 x_with_insides_1
def b_with_insides : Ss := .cons (.asg 2 (.idx (.var 0) (.con (.int 0)))) (.cons (.ite (.cmp .inn (.var 2) (.tup (.cons (.con (.str "cell")) (.cons (.con (.str "some")) (.cons (.con (.str "rec")) .nil))))) (.cons (.ret (.tup (.cons (.var 2) (.cons (.idx (.var 1) (.con (.int 0))) .nil)))) .nil) (.nil)) (.cons (.ite (.cmp .inn (.var 2) (.tup (.cons (.con (.str "row")) (.cons (.con (.str "one")) .nil)))) (.cons (.ret (.tup (.cons (.var 2) (.cons (.var 1) .nil)))) .nil) (.nil)) (.cons (.ite (.cmp .eq (.var 2) (.con (.str "room"))) (.cons (.ret (.tup (.cons (.con (.str "room")) (.cons (.bf .tuple (.cons (e_with_insides_0) .nil)) .nil)))) .nil) (.nil)) (.cons (.ite (.cmp .eq (.var 2) (.con (.str "code"))) (.cons (.ret (.tup (.cons (.con (.str "code")) (.cons (.idx (.var 0) (.con (.int 1))) (.cons (.bf .tuple (.cons (e_with_insides_1) .nil)) .nil))))) .nil) (.nil)) (.cons (.ite (.cmp .eq (.var 2) (.con (.str "to"))) (.cons (.ret (.tup (.cons (.con (.str "to")) (.cons (.idx (.var 0) (.con (.int 1))) (.cons (.slc (.var 1) (.miss) (.neg (.con (.int 1)))) (.cons (.idx (.var 1) (.neg (.con (.int 1)))) .nil)))))) .nil) (.nil)) (.cons (.ret (.ite (.cmp .eq (.var 2) (.con (.str "not"))) (.tup (.cons (.con (.str "not")) (.cons (.idx (.var 0) (.con (.int 1))) (.cons (.var 1) .nil)))) (.var 0))) .nil))))))
def f_with_insides : Fn := { name := "with_insides", N := ["kind", "new", "word", "k", "pair"], P := ["kind", "new"], frz := false, body := b_with_insides }
def i_put_below_0 : I := .ev (.call 0 (.cons (.var 0) .nil))
def x_put_below_0 : E := .call 3 (.cons (.var 5) (.cons (.var 4) (.cons (.var 2) .nil)))
def c_put_below_0 : E := .miss
def e_put_below_0 : E := .lc (.v 5) i_put_below_0 c_put_below_0 x_put_below_0
def b_put_below : Ss := .cons (.ite (.cmp .eq (.idx (.var 0) (.con (.int 0))) (.con (.str "var"))) (.cons (.asg 3 (.bin .sub (.idx (.var 0) (.con (.int 1))) (.var 1))) (.cons (.ite (.cmp .lt (.var 3) (.con (.int 0))) (.cons (.ret (.var 0)) .nil) (.nil)) (.cons (.ret (.ite (.cmp .lt (.var 3) (.bf .len (.cons (.var 2) .nil))) (.idx (.var 2) (.var 3)) (.tup (.cons (.con (.str "var")) (.cons (.bin .sub (.idx (.var 0) (.con (.int 1))) (.bf .len (.cons (.var 2) .nil))) .nil))))) .nil))) (.nil)) (.cons (.asg 4 (.bin .add (.var 1) (.call 1 (.cons (.var 0) .nil)))) (.cons (.ret (.call 2 (.cons (.var 0) (.cons (.bf .tuple (.cons (e_put_below_0) .nil)) .nil)))) .nil))
def f_put_below : Fn := { name := "put_below", N := ["kind", "under", "kinds", "at", "more", "k"], P := ["kind", "under", "kinds"], frz := false, body := b_put_below }
def i_opened_0 : I := .ev (.call 0 (.cons (.var 0) .nil))
def x_opened_0 : E := .call 3 (.cons (.var 3) (.cons (.con (.int 0)) (.cons (.var 1) .nil)))
def c_opened_0 : E := .miss
def e_opened_0 : E := .lc (.v 3) i_opened_0 c_opened_0 x_opened_0
def b_opened : Ss := .cons (.asg 2 (.call 2 (.cons (.var 0) (.cons (.bf .tuple (.cons (e_opened_0) .nil)) .nil)))) (.cons (.ite (.cmp .inn (.idx (.var 0) (.con (.int 0))) (.tup (.cons (.con (.str "some")) (.cons (.con (.str "rec")) .nil)))) (.cons (.ret (.idx (.var 2) (.con (.int 1)))) .nil) (.nil)) (.cons (.ret (.ite (.cmp .eq (.idx (.var 0) (.con (.int 0))) (.con (.str "to"))) (.tup (.cons (.idx (.var 2) (.con (.int 2))) (.cons (.idx (.var 2) (.con (.int 3))) .nil))) (.idx (.var 2) (.con (.int 2))))) .nil))
def f_opened : Fn := { name := "opened", N := ["kind", "kinds", "inside", "k"], P := ["kind", "kinds"], frz := false, body := b_opened }
def i_stored_kind_of_0 : I := .ev (.call 0 (.cons (.var 0) .nil))
def x_stored_kind_of_0 : E := .call 5 (.cons (.var 2) .nil)
def c_stored_kind_of_0 : E := .miss
def e_stored_kind_of_0 : E := .lc (.v 2) i_stored_kind_of_0 c_stored_kind_of_0 x_stored_kind_of_0
def i_stored_kind_of_1 : I := .ev (.var 1)
def x_stored_kind_of_1 : E := .tup (.cons (.var 2) (.cons (.con (.bl true)) .nil))
def c_stored_kind_of_1 : E := .miss
def e_stored_kind_of_1 : E := .lc (.v 2) i_stored_kind_of_1 c_stored_kind_of_1 x_stored_kind_of_1
def b_stored_kind_of : Ss := .cons (.asg 1 (.bf .tuple (.cons (e_stored_kind_of_0) .nil))) (.cons (.ite (.cmp .eq (.idx (.var 0) (.con (.int 0))) (.con (.str "row"))) (.cons (.ret (.tup (.cons (.con (.str "room")) (.cons (.bf .tuple (.cons (e_stored_kind_of_1) .nil)) .nil)))) .nil) (.nil)) (.cons (.ret (.call 2 (.cons (.var 0) (.cons (.var 1) .nil)))) .nil))
def f_stored_kind_of : Fn := { name := "stored_kind_of", N := ["kind", "new", "k"], P := ["kind"], frz := false, body := b_stored_kind_of, kw := [(0, ["kind"], [0])] }
def i_code_kind_of_0 : I := .ev (.call 0 (.cons (.var 0) .nil))
def x_code_kind_of_0 : E := .call 6 (.cons (.var 2) .nil)
def c_code_kind_of_0 : E := .miss
def e_code_kind_of_0 : E := .lc (.v 2) i_code_kind_of_0 c_code_kind_of_0 x_code_kind_of_0
def b_code_kind_of : Ss := .cons (.asg 1 (.bf .tuple (.cons (e_code_kind_of_0) .nil))) (.cons (.ret (.ite (.cmp .eq (.idx (.var 0) (.con (.int 0))) (.con (.str "not"))) (.tup (.cons (.con (.str "code")) (.cons (.idx (.var 0) (.con (.int 1))) (.cons (.tenum (.var 1)) .nil)))) (.call 2 (.cons (.var 0) (.cons (.var 1) .nil))))) .nil)
def f_code_kind_of : Fn := { name := "code_kind_of", N := ["kind", "new", "k"], P := ["kind"], frz := false, body := b_code_kind_of, kw := [(0, ["kind"], [0])] }
def b__law_flow : Ss := .cons (.ret (.new (.lst (.cons (.new (.bf .list (.cons (.var 0) .nil))) (.cons (.con (.int 0)) (.cons (.con (.int 11)) (.cons (.con (.int 0)) .nil))))))) .nil
def f__law_flow : Fn := { name := "_law_flow", N := ["script"], P := ["script"], frz := false, body := b__law_flow }
def b__law_draw : Ss := .cons (.ite (.and (.cmp .eq (.idx (.var 0) (.con (.int 1))) (.con (.int 0))) (.cons (.cmp .ne (.idx (.var 0) (.con (.int 0))) (.lst (.nil))) .nil)) (.cons (.asg 2 (.bf .int (.cons (.mth .popAt (.idx (.var 0) (.con (.int 0))) (.cons (.con (.int 0)) .nil)) .nil))) (.cons (.sto (.var 0) (.con (.int 1)) (.bf .max2 (.cons (.con (.int 0)) (.cons (.bin .sub (.bf .abs (.cons (.var 2) .nil)) (.bin .pow (.con (.int 10)) (.con (.int 18)))) .nil)))) (.cons (.sto (.var 0) (.con (.int 2)) (.bin .mod (.bf .int (.cons (.bin .add (.bin .mul (.idx (.var 0) (.con (.int 2))) (.con (.int 1181783497276652981))) (.var 2)) .nil)) (.con (.int 2305843009213693951)))) .nil))) (.nil)) (.cons (.ite (.cmp .gt (.idx (.var 0) (.con (.int 1))) (.con (.int 0))) (.cons (.asg 3 (.bin .fdiv (.idx (.var 0) (.con (.int 1))) (.var 1))) (.cons (.asg 4 (.bin .sub (.idx (.var 0) (.con (.int 1))) (.bin .mul (.var 3) (.var 1)))) (.cons (.sto (.var 0) (.con (.int 1)) (.var 3)) (.cons (.ret (.var 4)) .nil)))) (.nil)) (.cons (.sto (.var 0) (.con (.int 3)) (.bin .add (.idx (.var 0) (.con (.int 3))) (.con (.int 1)))) (.cons (.asg 5 (.idx (.var 0) (.con (.int 3)))) (.cons (.asg 6 (.bin .mod (.bf .int (.cons (.bin .add (.bin .add (.bin .add (.idx (.var 0) (.con (.int 2))) (.bin .mul (.bin .mul (.con (.int 7919)) (.var 5)) (.var 5))) (.bin .mul (.con (.int 15485863)) (.var 5))) (.con (.int 3))) .nil)) (.con (.int 2305843009213693951)))) (.cons (.asg 6 (.bin .fdiv (.bin .mod (.bf .int (.cons (.bin .add (.bin .add (.bin .mul (.var 6) (.var 6)) (.bin .mul (.con (.int 104729)) (.var 5))) (.con (.int 5))) .nil)) (.con (.int 2305843009213693951))) (.con (.int 1021)))) (.cons (.asg 6 (.bin .fdiv (.bin .mod (.bf .int (.cons (.bin .add (.bin .mul (.var 6) (.var 6)) (.bin .mul (.con (.int 611953)) (.var 5))) .nil)) (.con (.int 2305843009213693951))) (.con (.int 4093)))) (.cons (.ret (.bin .mod (.bf .int (.cons (.var 6) .nil)) (.var 1))) .nil)))))))
def f__law_draw : Fn := { name := "_law_draw", N := ["flow", "many", "cell", "rest", "found", "turn", "mixed"], P := ["flow", "many"], frz := false, body := b__law_draw }
def i__law_same_0 : I := .rng (.bf .len (.cons (.var 1) .nil))
def x__law_same_0 : E := .var 2
def c__law_same_0 : E := .not (.call 9 (.cons (.idx (.var 0) (.var 2)) (.cons (.idx (.var 1) (.var 2)) .nil)))
def e__law_same_0 : E := .lc (.v 2) i__law_same_0 c__law_same_0 x__law_same_0
def b__law_same : Ss := .cons (.ite (.cmp .is (.var 1) (.con (.non))) (.cons (.ret (.cmp .is (.var 0) (.con (.non)))) .nil) (.nil)) (.cons (.ite (.isi (.var 1) .bl) (.cons (.ret (.and (.isi (.var 0) .bl) (.cons (.cmp .eq (.var 0) (.var 1)) .nil))) .nil) (.nil)) (.cons (.ite (.isi (.var 1) .int) (.cons (.ret (.and (.isi (.var 0) .int) (.cons (.not (.isi (.var 0) .bl)) (.cons (.cmp .eq (.var 0) (.var 1)) .nil)))) .nil) (.nil)) (.cons (.ite (.isi (.var 1) .str) (.cons (.ret (.and (.isi (.var 0) .str) (.cons (.cmp .eq (.var 0) (.var 1)) .nil))) .nil) (.nil)) (.cons (.ite (.or (.cmp .ne (.isi (.var 1) .lst) (.isi (.var 0) .lst)) (.cons (.cmp .ne (.isi (.var 1) .tup) (.isi (.var 0) .tup)) .nil)) (.cons (.ret (.con (.bl false))) .nil) (.nil)) (.cons (.ret (.and (.cmp .eq (.bf .len (.cons (.var 0) .nil)) (.bf .len (.cons (.var 1) .nil))) (.cons (.cmp .eq (e__law_same_0) (.lst (.nil))) .nil))) .nil)))))
def f__law_same : Fn := { name := "_law_same", N := ["found", "due", "k"], P := ["found", "due"], frz := false, body := b__law_same }
def i__law_put_0 : I := .ev (.idx (.var 0) (.con (.int 1)))
def x__law_put_0 : E := .call 10 (.cons (.var 5) (.cons (.var 1) (.cons (.var 2) .nil)))
def c__law_put_0 : E := .miss
def e__law_put_0 : E := .lc (.v 5) i__law_put_0 c__law_put_0 x__law_put_0
def i__law_put_1 : I := .ev (.idx (.var 0) (.con (.int 1)))
def x__law_put_1 : E := .tup (.cons (.call 10 (.cons (.idx (.var 6) (.con (.int 0))) (.cons (.var 1) (.cons (.var 2) .nil)))) (.cons (.idx (.var 6) (.con (.int 1))) .nil))
def c__law_put_1 : E := .miss
def e__law_put_1 : E := .lc (.v 6) i__law_put_1 c__law_put_1 x__law_put_1
def i__law_put_2 : I := .ev (.idx (.var 0) (.con (.int 2)))
def x__law_put_2 : E := .tup (.cons (.idx (.var 6) (.con (.int 0))) (.cons (.call 10 (.cons (.idx (.var 6) (.con (.int 1))) (.cons (.var 7) (.cons (.var 2) .nil)))) .nil))
def c__law_put_2 : E := .miss
def e__law_put_2 : E := .lc (.v 6) i__law_put_2 c__law_put_2 x__law_put_2
def i__law_put_3 : I := .ev (.idx (.var 0) (.con (.int 2)))
def x__law_put_3 : E := .call 10 (.cons (.var 5) (.cons (.bin .add (.var 1) (.idx (.var 0) (.con (.int 1)))) (.cons (.var 2) .nil)))
def c__law_put_3 : E := .miss
def e__law_put_3 : E := .lc (.v 5) i__law_put_3 c__law_put_3 x__law_put_3
def b__law_put : Ss := .cons (.asg 3 (.idx (.var 0) (.con (.int 0)))) (.cons (.ite (.cmp .eq (.var 3) (.con (.str "var"))) (.cons (.asg 4 (.bin .sub (.idx (.var 0) (.con (.int 1))) (.var 1))) (.cons (.ite (.cmp .lt (.var 4) (.con (.int 0))) (.cons (.ret (.var 0)) .nil) (.nil)) (.cons (.ret (.ite (.cmp .lt (.var 4) (.bf .len (.cons (.var 2) .nil))) (.idx (.var 2) (.var 4)) (.tup (.cons (.con (.str "var")) (.cons (.bin .sub (.idx (.var 0) (.con (.int 1))) (.bf .len (.cons (.var 2) .nil))) .nil))))) .nil))) (.nil)) (.cons (.ite (.cmp .inn (.var 3) (.tup (.cons (.con (.str "row")) (.cons (.con (.str "one")) .nil)))) (.cons (.ret (.tup (.cons (.var 3) (.cons (.bf .tuple (.cons (e__law_put_0) .nil)) .nil)))) .nil) (.nil)) (.cons (.ite (.cmp .eq (.var 3) (.con (.str "room"))) (.cons (.ret (.tup (.cons (.con (.str "room")) (.cons (.bf .tuple (.cons (e__law_put_1) .nil)) .nil)))) .nil) (.nil)) (.cons (.ite (.cmp .eq (.var 3) (.con (.str "code"))) (.cons (.asg 7 (.bin .add (.var 1) (.idx (.var 0) (.con (.int 1))))) (.cons (.ret (.tup (.cons (.con (.str "code")) (.cons (.idx (.var 0) (.con (.int 1))) (.cons (.bf .tuple (.cons (e__law_put_2) .nil)) .nil))))) .nil)) (.nil)) (.cons (.ite (.cmp .eq (.var 3) (.con (.str "not"))) (.cons (.ret (.tup (.cons (.con (.str "not")) (.cons (.idx (.var 0) (.con (.int 1))) (.cons (.bf .tuple (.cons (e__law_put_3) .nil)) .nil))))) .nil) (.nil)) (.cons (.ite (.cmp .inn (.var 3) (.tup (.cons (.con (.str "cell")) (.cons (.con (.str "some")) (.cons (.con (.str "rec")) .nil))))) (.cons (.ret (.tup (.cons (.var 3) (.cons (.call 10 (.cons (.idx (.var 0) (.con (.int 1))) (.cons (.bin .add (.var 1) (.bf .int (.cons (.cmp .ne (.var 3) (.con (.str "cell"))) .nil))) (.cons (.var 2) .nil)))) .nil)))) .nil) (.nil)) (.cons (.ret (.var 0)) .nil)))))))
def f__law_put : Fn := { name := "_law_put", N := ["kind", "under", "kinds", "word", "at", "one", "pair", "more"], P := ["kind", "under", "kinds"], frz := false, body := b__law_put }
def i__law_stored_0 : I := .ev (.idx (.var 0) (.con (.int 1)))
def x__law_stored_0 : E := .call 11 (.cons (.var 3) .nil)
def c__law_stored_0 : E := .miss
def e__law_stored_0 : E := .lc (.v 3) i__law_stored_0 c__law_stored_0 x__law_stored_0
def i__law_stored_1 : I := .ev (.var 2)
def x__law_stored_1 : E := .tup (.cons (.var 3) (.cons (.con (.bl true)) .nil))
def c__law_stored_1 : E := .miss
def e__law_stored_1 : E := .lc (.v 3) i__law_stored_1 c__law_stored_1 x__law_stored_1
def i__law_stored_2 : I := .ev (.idx (.var 0) (.con (.int 2)))
def x__law_stored_2 : E := .call 11 (.cons (.var 3) .nil)
def c__law_stored_2 : E := .miss
def e__law_stored_2 : E := .lc (.v 3) i__law_stored_2 c__law_stored_2 x__law_stored_2
def b__law_stored : Ss := .cons (.asg 1 (.idx (.var 0) (.con (.int 0)))) (.cons (.ite (.cmp .inn (.var 1) (.tup (.cons (.con (.str "row")) (.cons (.con (.str "one")) .nil)))) (.cons (.asg 2 (.bf .tuple (.cons (e__law_stored_0) .nil))) (.cons (.ret (.ite (.cmp .eq (.var 1) (.con (.str "row"))) (.tup (.cons (.con (.str "room")) (.cons (.bf .tuple (.cons (e__law_stored_1) .nil)) .nil))) (.tup (.cons (.con (.str "one")) (.cons (.var 2) .nil))))) .nil)) (.nil)) (.cons (.ite (.cmp .eq (.var 1) (.con (.str "not"))) (.cons (.ret (.tup (.cons (.con (.str "not")) (.cons (.idx (.var 0) (.con (.int 1))) (.cons (.bf .tuple (.cons (e__law_stored_2) .nil)) .nil))))) .nil) (.nil)) (.cons (.ret (.ite (.cmp .inn (.var 1) (.tup (.cons (.con (.str "cell")) (.cons (.con (.str "some")) (.cons (.con (.str "rec")) .nil))))) (.tup (.cons (.var 1) (.cons (.call 11 (.cons (.idx (.var 0) (.con (.int 1))) .nil)) .nil))) (.var 0))) .nil)))
def f__law_stored : Fn := { name := "_law_stored", N := ["kind", "word", "new", "one"], P := ["kind"], frz := false, body := b__law_stored }
def i__law_of_code_0 : I := .rng (.bf .len (.cons (.idx (.var 0) (.con (.int 2))) .nil))
def x__law_of_code_0 : E := .tup (.cons (.var 2) (.cons (.call 12 (.cons (.idx (.idx (.var 0) (.con (.int 2))) (.var 2)) .nil)) .nil))
def c__law_of_code_0 : E := .miss
def e__law_of_code_0 : E := .lc (.v 2) i__law_of_code_0 c__law_of_code_0 x__law_of_code_0
def i__law_of_code_1 : I := .ev (.idx (.var 0) (.con (.int 1)))
def x__law_of_code_1 : E := .tup (.cons (.call 12 (.cons (.idx (.var 3) (.con (.int 0))) .nil)) (.cons (.idx (.var 3) (.con (.int 1))) .nil))
def c__law_of_code_1 : E := .miss
def e__law_of_code_1 : E := .lc (.v 3) i__law_of_code_1 c__law_of_code_1 x__law_of_code_1
def i__law_of_code_2 : I := .ev (.idx (.var 0) (.con (.int 1)))
def x__law_of_code_2 : E := .call 12 (.cons (.var 4) .nil)
def c__law_of_code_2 : E := .miss
def e__law_of_code_2 : E := .lc (.v 4) i__law_of_code_2 c__law_of_code_2 x__law_of_code_2
def b__law_of_code : Ss := .cons (.asg 1 (.idx (.var 0) (.con (.int 0)))) (.cons (.ite (.cmp .eq (.var 1) (.con (.str "not"))) (.cons (.ret (.tup (.cons (.con (.str "code")) (.cons (.idx (.var 0) (.con (.int 1))) (.cons (.bf .tuple (.cons (e__law_of_code_0) .nil)) .nil))))) .nil) (.nil)) (.cons (.ite (.cmp .eq (.var 1) (.con (.str "room"))) (.cons (.ret (.tup (.cons (.con (.str "room")) (.cons (.bf .tuple (.cons (e__law_of_code_1) .nil)) .nil)))) .nil) (.nil)) (.cons (.ite (.cmp .eq (.var 1) (.con (.str "one"))) (.cons (.ret (.tup (.cons (.con (.str "one")) (.cons (.bf .tuple (.cons (e__law_of_code_2) .nil)) .nil)))) .nil) (.nil)) (.cons (.ret (.ite (.cmp .inn (.var 1) (.tup (.cons (.con (.str "cell")) (.cons (.con (.str "some")) (.cons (.con (.str "rec")) .nil))))) (.tup (.cons (.var 1) (.cons (.call 12 (.cons (.idx (.var 0) (.con (.int 1))) .nil)) .nil))) (.var 0))) .nil))))
def f__law_of_code : Fn := { name := "_law_of_code", N := ["kind", "word", "k", "pair", "one"], P := ["kind"], frz := false, body := b__law_of_code }
def i__law_kind_0 : I := .rng (.var 6)
def x__law_kind_0 : E := .call 13 (.cons (.var 0) (.cons (.var 1) (.cons (.var 2) (.cons (.var 3) (.cons (.bin .sub (.var 4) (.con (.int 1))) .nil)))))
def c__law_kind_0 : E := .miss
def e__law_kind_0 : E := .lc (.v 8) i__law_kind_0 c__law_kind_0 x__law_kind_0
def i__law_kind_1 : I := .ev (.var 7)
def x__law_kind_1 : E := .tup (.cons (.var 9) (.cons (.cmp .eq (.call 8 (.cons (.var 0) (.cons (.con (.int 2)) .nil))) (.con (.int 0))) .nil))
def c__law_kind_1 : E := .miss
def e__law_kind_1 : E := .lc (.v 9) i__law_kind_1 c__law_kind_1 x__law_kind_1
def i__law_kind_2 : I := .rng (.call 8 (.cons (.var 0) (.cons (.con (.int 4)) .nil)))
def x__law_kind_2 : E := .call 13 (.cons (.var 0) (.cons (.var 1) (.cons (.var 2) (.cons (.bin .add (.var 3) (.var 10)) (.cons (.bin .sub (.var 4) (.con (.int 1))) .nil)))))
def c__law_kind_2 : E := .miss
def e__law_kind_2 : E := .lc (.v 8) i__law_kind_2 c__law_kind_2 x__law_kind_2
def b__law_kind : Ss := .cons (.asg 5 (.ite (.cmp .gt (.var 4) (.con (.int 0))) (.call 8 (.cons (.var 0) (.cons (.con (.int 9)) .nil))) (.call 8 (.cons (.var 0) (.cons (.con (.int 3)) .nil))))) (.cons (.ite (.or (.cmp .eq (.var 5) (.con (.int 0))) (.cons (.and (.cmp .eq (.var 5) (.con (.int 1))) (.cons (.cmp .eq (.var 2) (.con (.int 0))) .nil)) (.cons (.and (.cmp .eq (.var 5) (.con (.int 2))) (.cons (.cmp .eq (.var 3) (.con (.int 0))) .nil)) .nil))) (.cons (.ret (.tup (.cons (.con (.str "int")) .nil))) .nil) (.nil)) (.cons (.ite (.cmp .lt (.var 5) (.con (.int 3))) (.cons (.ret (.ite (.cmp .eq (.var 5) (.con (.int 1))) (.tup (.cons (.con (.str "free")) (.cons (.call 8 (.cons (.var 0) (.cons (.var 2) .nil))) .nil))) (.tup (.cons (.con (.str "var")) (.cons (.call 8 (.cons (.var 0) (.cons (.var 3) .nil))) .nil))))) .nil) (.nil)) (.cons (.ite (.cmp .lt (.var 5) (.con (.int 5))) (.cons (.asg 6 (.ite (.cmp .eq (.var 5) (.con (.int 3))) (.call 8 (.cons (.var 0) (.cons (.con (.int 4)) .nil))) (.bin .add (.con (.int 1)) (.call 8 (.cons (.var 0) (.cons (.con (.int 3)) .nil)))))) (.cons (.asgLc 7 (e__law_kind_0)) (.cons (.ite (.and (.cmp .eq (.var 5) (.con (.int 3))) (.cons (.cmp .eq (.var 1) (.con (.str "room"))) .nil)) (.cons (.ret (.tup (.cons (.con (.str "room")) (.cons (.bf .tuple (.cons (e__law_kind_1) .nil)) .nil)))) .nil) (.nil)) (.cons (.ret (.tup (.cons (.ite (.cmp .eq (.var 5) (.con (.int 3))) (.var 1) (.con (.str "one"))) (.cons (.bf .tuple (.cons (.var 7) .nil)) .nil)))) .nil)))) (.nil)) (.cons (.ite (.cmp .eq (.var 5) (.con (.int 5))) (.cons (.ret (.tup (.cons (.con (.str "cell")) (.cons (.call 13 (.cons (.var 0) (.cons (.var 1) (.cons (.var 2) (.cons (.var 3) (.cons (.bin .sub (.var 4) (.con (.int 1))) .nil)))))) .nil)))) .nil) (.nil)) (.cons (.ite (.cmp .lt (.var 5) (.con (.int 8))) (.cons (.asg 7 (.call 13 (.cons (.var 0) (.cons (.var 1) (.cons (.var 2) (.cons (.bin .add (.var 3) (.con (.int 1))) (.cons (.bin .sub (.var 4) (.con (.int 1))) .nil))))))) (.cons (.ret (.tup (.cons (.ite (.or (.cmp .eq (.var 5) (.con (.int 6))) (.cons (.cmp .inn (.idx (.var 7) (.con (.int 0))) (.tup (.cons (.con (.str "free")) (.cons (.con (.str "var")) .nil)))) .nil)) (.con (.str "some")) (.con (.str "rec"))) (.cons (.var 7) .nil)))) .nil)) (.nil)) (.cons (.asg 10 (.call 8 (.cons (.var 0) (.cons (.con (.int 4)) .nil)))) (.cons (.ret (.tup (.cons (.con (.str "not")) (.cons (.var 10) (.cons (.bf .tuple (.cons (e__law_kind_2) .nil)) .nil))))) .nil)))))))
def f__law_kind : Fn := { name := "_law_kind", N := ["flow", "word", "free", "under", "deep", "way", "many", "inside", "k", "one", "n"], P := ["flow", "word", "free", "under", "deep"], frz := false, body := b__law_kind }
def b__law_turned_right : Ss := .cons (.asg 4 (.call 13 (.cons (.var 0) (.cons (.var 2) (.cons (.con (.int 3)) (.cons (.con (.int 0)) (.cons (.var 3) .nil))))))) (.cons (.par 5 6 (.call 13 (.cons (.var 0) (.cons (.var 2) (.cons (.con (.int 3)) (.cons (.con (.int 1)) (.cons (.bin .sub (.var 3) (.con (.int 1))) .nil)))))) (.call 13 (.cons (.var 0) (.cons (.var 2) (.cons (.con (.int 3)) (.cons (.con (.int 0)) (.cons (.con (.int 2)) .nil))))))) (.cons (.asg 7 (.bf .repr (.cons (.lst (.cons (.var 4) (.cons (.var 5) (.cons (.var 6) .nil)))) .nil))) (.cons (.ite (.cmp .eq (.var 1) (.con (.str "stored"))) (.cons (.asg 8 (.lst (.cons (.call 5 (.cons (.var 4) .nil)) (.cons (.call 5 (.cons (.tup (.cons (.con (.str "some")) (.cons (.var 5) .nil))) .nil)) (.cons (.callK 5 (.nil) (.cons (.var 6) .nil) [0]) .nil))))) (.cons (.asg 9 (.call 5 (.cons (.call 4 (.cons (.tup (.cons (.con (.str "some")) (.cons (.var 5) .nil))) (.cons (.tup (.cons (.var 6) .nil)) .nil))) .nil))) .nil)) (.cons (.asg 8 (.lst (.cons (.call 6 (.cons (.var 4) .nil)) (.cons (.call 6 (.cons (.tup (.cons (.con (.str "some")) (.cons (.var 5) .nil))) .nil)) (.cons (.callK 6 (.nil) (.cons (.var 6) .nil) [0]) .nil))))) (.cons (.asg 9 (.call 6 (.cons (.call 4 (.cons (.tup (.cons (.con (.str "some")) (.cons (.var 5) .nil))) (.cons (.tup (.cons (.var 6) .nil)) .nil))) .nil))) .nil))) (.cons (.asg 10 (.lst (.cons (.call 11 (.cons (.var 4) .nil)) (.cons (.tup (.cons (.con (.str "some")) (.cons (.call 11 (.cons (.var 5) .nil)) .nil))) (.cons (.call 11 (.cons (.var 6) .nil)) .nil))))) (.cons (.ite (.cmp .eq (.var 1) (.con (.str "code"))) (.cons (.asg 10 (.lst (.cons (.call 12 (.cons (.var 4) .nil)) (.cons (.tup (.cons (.con (.str "some")) (.cons (.call 12 (.cons (.var 5) .nil)) .nil))) (.cons (.call 12 (.cons (.var 6) .nil)) .nil))))) .nil) (.nil)) (.cons (.ite (.or (.not (.call 9 (.cons (.var 8) (.cons (.var 10) .nil)))) (.cons (.cmp .ne (.bf .repr (.cons (.lst (.cons (.var 4) (.cons (.var 5) (.cons (.var 6) .nil)))) .nil)) (.var 7)) .nil)) (.cons (.ret (.con (.bl false))) .nil) (.nil)) (.cons (.ret (.call 9 (.cons (.var 9) (.cons (.call 10 (.cons (.idx (.idx (.var 8) (.con (.int 1))) (.con (.int 1))) (.cons (.con (.int 0)) (.cons (.tup (.cons (.idx (.var 8) (.con (.int 2))) .nil)) .nil)))) .nil)))) .nil)))))))
def f__law_turned_right : Fn := { name := "_law_turned_right", N := ["flow", "told", "word", "deep", "kind", "inside", "one", "kept", "found", "both", "made"], P := ["flow", "told", "word", "deep"], frz := false, body := b__law_turned_right }
def b_law : Ss := .cons (.asg 1 (.call 7 (.cons (.var 0) .nil))) (.cons (.for_ (.v 2) (.rng (.bin .add (.con (.int 6)) (.bf .min2 (.cons (.con (.int 10)) (.cons (.bf .len (.cons (.var 0) .nil)) .nil))))) (.cons (.asg 3 (.bin .add (.con (.int 2)) (.call 8 (.cons (.var 1) (.cons (.con (.int 4)) .nil))))) (.cons (.ite (.not (.call 14 (.cons (.var 1) (.cons (.con (.str "stored")) (.cons (.con (.str "row")) (.cons (.var 3) .nil)))))) (.cons (.ret (.con (.bl false))) .nil) (.nil)) (.cons (.ite (.not (.call 14 (.cons (.var 1) (.cons (.con (.str "code")) (.cons (.con (.str "room")) (.cons (.var 3) .nil)))))) (.cons (.ret (.con (.bl false))) .nil) (.nil)) .nil)))) (.cons (.ret (.con (.bl true))) .nil))
def f_law : Fn := { name := "law", N := ["script", "flow", "turn", "deep"], P := ["script"], frz := false, body := b_law }
def T : List Fn := [f_insides, f_binds, f_with_insides, f_put_below, f_opened, f_stored_kind_of, f_code_kind_of, f__law_flow, f__law_draw, f__law_same, f__law_put, f__law_stored, f__law_of_code, f__law_kind, f__law_turned_right, f_law]
def bs : List Str := ["abs", "bool", "enumerate", "int", "isinstance", "len", "list", "max", "min", "range", "repr", "str", "tuple", "zip"]
def gn : List Str := []
-- at: [1, 2, 3, 4, 5, 7, 9, 11, 12, 13, 14, 15, 16, 17, 18, 19]

def top (i : Nat) : Stmt := PySem.Challenge.pw_kindscarried_k44_kinds_stored_and_of_cod.main.body.getD i (.Pass ⟨0, 0, 0, 0⟩)
def chk (f : Fn) (i : Nat) : Bool := mSs ⟨f.N, defScope (top i), fun _ => true, bs, T, gn⟩ f.body (defBody (top i))
theorem ok_insides : chk f_insides 1 = true := by decide +kernel
theorem sc_insides : FnScope f_insides.N f_insides.P (defScope (top 1)) := ⟨rfl, rfl, rfl, by decide +kernel, rfl, by decide +kernel, by decide +kernel⟩
theorem ok_binds : chk f_binds 2 = true := by decide +kernel
theorem sc_binds : FnScope f_binds.N f_binds.P (defScope (top 2)) := ⟨rfl, rfl, rfl, by decide +kernel, rfl, by decide +kernel, by decide +kernel⟩
theorem ok_with_insides : chk f_with_insides 3 = true := by decide +kernel
theorem sc_with_insides : FnScope f_with_insides.N f_with_insides.P (defScope (top 3)) := ⟨rfl, rfl, rfl, by decide +kernel, rfl, by decide +kernel, by decide +kernel⟩
theorem ok_put_below : chk f_put_below 4 = true := by decide +kernel
theorem sc_put_below : FnScope f_put_below.N f_put_below.P (defScope (top 4)) := ⟨rfl, rfl, rfl, by decide +kernel, rfl, by decide +kernel, by decide +kernel⟩
theorem ok_opened : chk f_opened 5 = true := by decide +kernel
theorem sc_opened : FnScope f_opened.N f_opened.P (defScope (top 5)) := ⟨rfl, rfl, rfl, by decide +kernel, rfl, by decide +kernel, by decide +kernel⟩
theorem ok_stored_kind_of : chk f_stored_kind_of 7 = true := by decide +kernel
theorem sc_stored_kind_of : FnScope f_stored_kind_of.N f_stored_kind_of.P (defScope (top 7)) := ⟨rfl, rfl, rfl, by decide +kernel, rfl, by decide +kernel, by decide +kernel⟩
theorem ok_code_kind_of : chk f_code_kind_of 9 = true := by decide +kernel
theorem sc_code_kind_of : FnScope f_code_kind_of.N f_code_kind_of.P (defScope (top 9)) := ⟨rfl, rfl, rfl, by decide +kernel, rfl, by decide +kernel, by decide +kernel⟩
theorem ok__law_flow : chk f__law_flow 11 = true := by decide +kernel
theorem sc__law_flow : FnScope f__law_flow.N f__law_flow.P (defScope (top 11)) := ⟨rfl, rfl, rfl, by decide +kernel, rfl, by decide +kernel, by decide +kernel⟩
theorem ok__law_draw : chk f__law_draw 12 = true := by decide +kernel
theorem sc__law_draw : FnScope f__law_draw.N f__law_draw.P (defScope (top 12)) := ⟨rfl, rfl, rfl, by decide +kernel, rfl, by decide +kernel, by decide +kernel⟩
theorem ok__law_same : chk f__law_same 13 = true := by decide +kernel
theorem sc__law_same : FnScope f__law_same.N f__law_same.P (defScope (top 13)) := ⟨rfl, rfl, rfl, by decide +kernel, rfl, by decide +kernel, by decide +kernel⟩
theorem ok__law_put : chk f__law_put 14 = true := by decide +kernel
theorem sc__law_put : FnScope f__law_put.N f__law_put.P (defScope (top 14)) := ⟨rfl, rfl, rfl, by decide +kernel, rfl, by decide +kernel, by decide +kernel⟩
theorem ok__law_stored : chk f__law_stored 15 = true := by decide +kernel
theorem sc__law_stored : FnScope f__law_stored.N f__law_stored.P (defScope (top 15)) := ⟨rfl, rfl, rfl, by decide +kernel, rfl, by decide +kernel, by decide +kernel⟩
theorem ok__law_of_code : chk f__law_of_code 16 = true := by decide +kernel
theorem sc__law_of_code : FnScope f__law_of_code.N f__law_of_code.P (defScope (top 16)) := ⟨rfl, rfl, rfl, by decide +kernel, rfl, by decide +kernel, by decide +kernel⟩
theorem ok__law_kind : chk f__law_kind 17 = true := by decide +kernel
theorem sc__law_kind : FnScope f__law_kind.N f__law_kind.P (defScope (top 17)) := ⟨rfl, rfl, rfl, by decide +kernel, rfl, by decide +kernel, by decide +kernel⟩
theorem ok__law_turned_right : chk f__law_turned_right 18 = true := by decide +kernel
theorem sc__law_turned_right : FnScope f__law_turned_right.N f__law_turned_right.P (defScope (top 18)) := ⟨rfl, rfl, rfl, by decide +kernel, rfl, by decide +kernel, by decide +kernel⟩
theorem ok_law : chk f_law 19 = true := by decide +kernel
theorem sc_law : FnScope f_law.N f_law.P (defScope (top 19)) := ⟨rfl, rfl, rfl, by decide +kernel, rfl, by decide +kernel, by decide +kernel⟩
end K44
end

section
set_option maxRecDepth 100000
namespace K44
open PySem PV
/-! ### loops, in general -/
inductive A2 {α β : Type} (P : α → β → Prop) : List α → List β → Prop
  | nil : A2 P [] []
  | cons {a b as bs} : P a b → A2 P as bs → A2 P (a :: as) (b :: bs)
theorem A2.len {α β : Type} {P : α → β → Prop} {xs : List α} {ys : List β} (h : A2 P xs ys) : xs.length = ys.length := by
  induction h with
  | nil => rfl
  | cons _ _ ih => simp [ih]
theorem A2.map {α β γ : Type} {P : α → β → Prop} (f : γ → α) (g : γ → β) : ∀ {xs : List γ}, (∀ x ∈ xs, P (f x) (g x)) → A2 P (xs.map f) (xs.map g)
  | [], _ => .nil
  | x :: xs, h => .cons (h x List.mem_cons_self) (A2.map f g fun y hy => h y (List.mem_cons_of_mem _ hy))
theorem lcLoop_map {turn : D → Hh → R (Option D)} {good : Hh → Bool} {h : Hh} (hg : good h = true) : ∀ {xs ys : List D} (acc : List D), A2 (fun x y => turn x h = .ok (some y) h) xs ys → lcLoop good turn xs acc h = .ok (.lst (acc ++ ys)) h
  | [], _, acc, .nil => by unfold lcLoop; rw [if_pos hg]; simp
  | x :: xs, _, acc, .cons (b := y) p t => by
    unfold lcLoop
    rw [if_pos hg, p]
    dsimp only
    rw [lcLoop_map hg (acc ++ [y]) t]
    simp
theorem sz_of {n : Nat} (h : n ≤ 16777216) : sizeOk n = true := decide_eq_true h
/-- [e for t in it] that leaves the objects as they are -/
theorem v_lc {F : Fns} {G : List D} {t : Tg} {it : I} {e : E} {ρ : PV.Env} {h : Hh} {xs ys : List D} (hi : evI F G it ρ h = .ok ⟨xs, none⟩ h) (hb : A2 (fun x y => lcTurn t (evE F G .miss) (evE F G e) ρ x h = .ok (some y) h) xs ys) (hz : xs.length ≤ 16777216) :
    (evE F G (.lc t it .miss e)).v ρ h = .ok (.lst ys) h := by
  show (evI F G it ρ h).bind _ = _
  rw [hi, R.bind_ok, if_pos (sz_of hz), lcLoop_map rfl [] hb]
  rfl
/-- tuple([e for t in it]) -/
theorem v_tup {F : Fns} {G : List D} {e : E} {ρ : PV.Env} {h : Hh} {ys : List D} (hb : (evE F G e).v ρ h = .ok (.lst ys) h) : (evE F G (.bf .tuple (.cons e .nil))).v ρ h = .ok (.tup ys) h := by
  show (((evE F G e).v ρ h).bind fun x h1 => R.bind (.ok [] h1) fun xs h2 => .ok (x :: xs) h2).bind _ = _
  rw [hb]; rfl
/-- one turn with one name -/
theorem turn1 {F : Fns} {G : List D} {i : Nat} {e : E} {ρ : PV.Env} {h : Hh} {x y : D} (hb : (evE F G e).v (ρ.set i (some x)) h = .ok y h) : lcTurn (.v i) (evE F G .miss) (evE F G e) ρ x h = .ok (some y) h := by
  show ((evE F G e).v (ρ.set i (some x)) h).bind _ = _
  rw [hb]; rfl
theorem it_ev {F : Fns} {G : List D} {e : E} {ρ : PV.Env} {h : Hh} {xs : List D} (hb : (evE F G e).v ρ h = .ok (.tup xs) h) : evI F G (.ev e) ρ h = .ok ⟨xs, none⟩ h := by
  show ((evE F G e).v ρ h).bind _ = _
  rw [hb]; rfl

/-- a return of V, the statements behind it -/
def rt (F : Fns) (V : R D) (l : List Ss) : RS := l.foldl (fun r s => r.then_ (evSs F [] s)) (V.then_ fun x h => .ret x h)
theorem rt_ok {F : Fns} {x : D} {h : Hh} (l : List Ss) : rt F (.ok x h) l = .ret x h := by
  show l.foldl _ (RS.ret x h) = _
  induction l with
  | nil => rfl
  | cons s l ih => exact ih
def sdrop : Nat → Ss → Ss
  | n + 1, .cons _ ss => sdrop n ss
  | _, ss => ss

/-! ### kinds -/
inductive Un where | cel | som | re
inductive Mn where | row | one | room | not (n : Nat) | code (n : Nat)
mutual
inductive Kd where
  | int | free (n : Nat) | var (n : Nat) | un (w : Un) (k : Kd) | mn (m : Mn) (ks : Ks)
inductive Ks where
  | nil | cons (b : Bool) (k : Kd) (r : Ks)
end
def Un.nm : Un → Str
  | .cel => "cell" | .som => "some" | .re => "rec"
def Un.binds : Un → Nat
  | .cel => 0 | .som => 1 | .re => 1
def Mn.binds : Mn → Nat
  | .not n => n | .code n => n | _ => 0
mutual
def Kd.to : Kd → D
  | .int => .tup [.str "int"]
  | .free n => .tup [.str "free", .int n]
  | .var n => .tup [.str "var", .int n]
  | .un w k => .tup [.str w.nm, k.to]
  | .mn .row ks => .tup [.str "row", .tup ks.Ds]
  | .mn .one ks => .tup [.str "one", .tup ks.Ds]
  | .mn .room ks => .tup [.str "room", .tup ks.Fs]
  | .mn (.not n) ks => .tup [.str "not", .int n, .tup ks.Ds]
  | .mn (.code n) ks => .tup [.str "code", .int n, .tup (enumD 0 ks.Ds)]
def Ks.Ds : Ks → List D
  | .nil => []
  | .cons _ k r => k.to :: r.Ds
def Ks.Fs : Ks → List D
  | .nil => []
  | .cons b k r => .tup [k.to, .bl b] :: r.Fs
end
mutual
def Kd.dep : Kd → Nat
  | .un _ k => k.dep + 1
  | .mn _ ks => ks.dep + 1
  | _ => 0
def Ks.dep : Ks → Nat
  | .nil => 0
  | .cons _ k r => max k.dep r.dep
end
def Ks.len : Ks → Nat
  | .nil => 0
  | .cons _ _ r => r.len + 1
theorem Ds_len : ∀ ks : Ks, ks.Ds.length = ks.len
  | .nil => rfl
  | .cons _ _ r => by show r.Ds.length + 1 = r.len + 1; rw [Ds_len r]
theorem Fs_len : ∀ ks : Ks, ks.Fs.length = ks.len
  | .nil => rfl
  | .cons _ _ r => by show r.Fs.length + 1 = r.len + 1; rw [Fs_len r]
mutual
/-- rows are short -/
def Kd.sm : Kd → Prop
  | .un _ k => k.sm
  | .mn _ ks => ks.len ≤ 1000 ∧ ks.sm
  | _ => True
def Ks.sm : Ks → Prop
  | .nil => True
  | .cons _ k r => k.sm ∧ r.sm
end
/-! what the law's functions do -/
mutual
def Kd.sto : Kd → Kd
  | .un w k => .un w k.sto
  | .mn .row ks => .mn .room (ks.sto true)
  | .mn m ks => .mn m (ks.sto false)
  | k => k
def Ks.sto (t : Bool) : Ks → Ks
  | .nil => .nil
  | .cons b k r => .cons (t || b) k.sto (r.sto t)
end
mutual
def Kd.cod : Kd → Kd
  | .un w k => .un w k.cod
  | .mn (.not n) ks => .mn (.code n) ks.cod
  | .mn m ks => .mn m ks.cod
  | k => k
def Ks.cod : Ks → Ks
  | .nil => .nil
  | .cons b k r => .cons b k.cod r.cod
end
mutual
def Kd.put (s : List Kd) (u : Nat) : Kd → Kd
  | .var n => if n < u then .var n else match s[n - u]? with
    | some k => k
    | none => .var (n - s.length)
  | .un w k => .un w (k.put s (u + w.binds))
  | .mn m ks => .mn m (ks.put s (u + m.binds))
  | k => k
def Ks.put (s : List Kd) (u : Nat) : Ks → Ks
  | .nil => .nil
  | .cons b k r => .cons b (k.put s u) (r.put s u)
end
mutual
theorem sto_put (s : List Kd) : ∀ (k : Kd) (u : Nat), (k.put s u).sto = k.sto.put (s.map Kd.sto) u
  | .int, u => rfl
  | .free n, u => rfl
  | .var n, u => by
    simp only [Kd.put, Kd.sto]
    by_cases hn : n < u
    · rw [if_pos hn, if_pos hn]; rfl
    · rw [if_neg hn, if_neg hn, List.getElem?_map]
      cases s[n - u]? with
      | none => simp [Kd.sto]
      | some k => rfl
  | .un w k, u => by simp only [Kd.put, Kd.sto, sto_put s k]
  | .mn m ks, u => by
    cases m with
    | row => simp only [Kd.put, Kd.sto, Mn.binds, sto_puts s ks]
    | one => simp only [Kd.put, Kd.sto, Mn.binds, sto_puts s ks]
    | room => simp only [Kd.put, Kd.sto, Mn.binds, sto_puts s ks]
    | not n => simp only [Kd.put, Kd.sto, Mn.binds, sto_puts s ks]
    | code n => simp only [Kd.put, Kd.sto, Mn.binds, sto_puts s ks]
theorem sto_puts (s : List Kd) : ∀ (ks : Ks) {t : Bool} {u : Nat}, (ks.put s u).sto t = (ks.sto t).put (s.map Kd.sto) u
  | .nil, t, u => rfl
  | .cons b k r, t, u => by simp only [Ks.put, Ks.sto, sto_put s k, sto_puts s r]
end
mutual
theorem cod_put (s : List Kd) : ∀ (k : Kd) (u : Nat), (k.put s u).cod = k.cod.put (s.map Kd.cod) u
  | .int, u => rfl
  | .free n, u => rfl
  | .var n, u => by
    simp only [Kd.put, Kd.cod]
    by_cases hn : n < u
    · rw [if_pos hn, if_pos hn]; rfl
    · rw [if_neg hn, if_neg hn, List.getElem?_map]
      cases s[n - u]? with
      | none => simp [Kd.cod]
      | some k => rfl
  | .un w k, u => by simp only [Kd.put, Kd.cod, cod_put s k]
  | .mn m ks, u => by
    cases m with
    | row => simp only [Kd.put, Kd.cod, Mn.binds, cod_puts s ks]
    | one => simp only [Kd.put, Kd.cod, Mn.binds, cod_puts s ks]
    | room => simp only [Kd.put, Kd.cod, Mn.binds, cod_puts s ks]
    | not n => simp only [Kd.put, Kd.cod, Mn.binds, cod_puts s ks]
    | code n => simp only [Kd.put, Kd.cod, Mn.binds, cod_puts s ks]
theorem cod_puts (s : List Kd) : ∀ (ks : Ks) {u : Nat}, (ks.put s u).cod = (ks.cod).put (s.map Kd.cod) u
  | .nil, u => rfl
  | .cons b k r, u => by simp only [Ks.put, Ks.cod, cod_put s k, cod_puts s r]
end
end K44
end

section
set_option maxRecDepth 100000
namespace K44
open PySem PV
abbrev C (k f : Nat) (xs : List D) (h : Hh) : R D := callN T [] k f xs h
abbrev F (k : Nat) : Fns := callN T [] k
def Kd.ins : Kd → List D
  | .un _ k => [k.to]
  | .mn _ ks => ks.Ds
  | _ => []
/-! ### insides, binds -/
theorem ins_room_t {k : Nat} {r0 r1 r2 r3 r4 : Option D} (h : Hh) (x : D) (b : Bool) : lcTurn (.tu [2, 3]) (evE (F k) [] c_insides_0) (evE (F k) [] x_insides_0) [r0, r1, r2, r3, r4] (.tup [x, .bl b]) h = .ok (some x) h := by kernel_rfl
theorem ins_room_a {k : Nat} {r0 r1 r2 r3 r4 : Option D} (h : Hh) : ∀ ks : Ks, A2 (fun x y => lcTurn (.tu [2, 3]) (evE (F k) [] c_insides_0) (evE (F k) [] x_insides_0) [r0, r1, r2, r3, r4] x h = .ok (some y) h) ks.Fs ks.Ds
  | .nil => .nil
  | .cons b kd r => .cons (ins_room_t h kd.to b) (ins_room_a h r)
theorem ins_code_t {k : Nat} {r0 r1 r2 r3 r4 : Option D} (h : Hh) (x y : D) : lcTurn (.tu [4, 2]) (evE (F k) [] c_insides_1) (evE (F k) [] x_insides_1) [r0, r1, r2, r3, r4] (.tup [y, x]) h = .ok (some x) h := by kernel_rfl
theorem ins_code_a {k : Nat} {r0 r1 r2 r3 r4 : Option D} (h : Hh) : ∀ (ks : Ks) (n : Nat), A2 (fun x y => lcTurn (.tu [4, 2]) (evE (F k) [] c_insides_1) (evE (F k) [] x_insides_1) [r0, r1, r2, r3, r4] x h = .ok (some y) h) (enumD n ks.Ds) ks.Ds
  | .nil, _ => .nil
  | .cons b kd r, n => .cons (ins_code_t h kd.to _) (ins_code_a h r (n + 1))
theorem enumD_len : ∀ (xs : List D) (n : Nat), (enumD n xs).length = xs.length
  | [], _ => rfl
  | x :: xs, n => by show (enumD (n + 1) xs).length + 1 = _; rw [enumD_len xs]; rfl
theorem insides_ok (k : Nat) (h : Hh) : ∀ d : Kd, d.sm → C (k + 1) 0 [d.to] h = .ok (.tup d.ins) h
  | .int, _ => by kernel_rfl
  | .free n, _ => by kernel_rfl
  | .var n, _ => by kernel_rfl
  | .un w d, _ => by cases w <;> kernel_rfl
  | .mn m ks, hs => by
    have hl : ks.len ≤ 1000 := hs.1
    cases m with
    | row => kernel_rfl
    | one => kernel_rfl
    | room =>
      have e : C (k + 1) 0 [Kd.to (.mn .room ks)] h = finR false h.length (rt (F k) ((evE (F k) [] (.bf .tuple (.cons e_insides_0 .nil))).v [some (.tup [.str "room", .tup ks.Fs]), some (.str "room"), none, none, none] h) [.nil, sdrop 4 b_insides]) := by kernel_rfl
      rw [e, v_tup (e := e_insides_0) (v_lc (xs := ks.Fs) (ys := ks.Ds) (it_ev (by kernel_rfl)) (ins_room_a h ks) (by rw [Fs_len]; omega))]
      rw [rt_ok]; rfl
    | not n => kernel_rfl
    | code n =>
      have e : C (k + 1) 0 [Kd.to (.mn (.code n) ks)] h = finR false h.length (rt (F k) ((evE (F k) [] (.bf .tuple (.cons e_insides_1 .nil))).v [some (.tup [.str "code", .int n, .tup (enumD 0 ks.Ds)]), some (.str "code"), none, none, none] h) [.nil, sdrop 5 b_insides]) := by kernel_rfl
      rw [e, v_tup (e := e_insides_1) (v_lc (xs := enumD 0 ks.Ds) (ys := ks.Ds) (it_ev (by kernel_rfl)) (ins_code_a h ks 0) (by rw [enumD_len, Ds_len]; omega))]
      rw [rt_ok]; rfl
def Kd.binds : Kd → Nat
  | .un w _ => w.binds
  | .mn m _ => m.binds
  | _ => 0
theorem binds_ok (k : Nat) (h : Hh) (d : Kd) : C (k + 1) 1 [d.to] h = .ok (.int d.binds) h := by
  cases d with
  | un w d => cases w <;> kernel_rfl
  | mn m ks => cases m <;> kernel_rfl
  | _ => kernel_rfl
/-! ### with_insides: the same kind, new insides -/
/-- ks, the kinds within replaced -/
def Ks.with : Ks → Ks → Ks
  | .cons b _ r, .cons _ k s => .cons b k (Ks.with r s)
  | _, _ => .nil
theorem with_room_t {k : Nat} {r0 r1 r2 r3 r4 : Option D} (h : Hh) (x y z : D) : lcTurn (.tu [3, 4]) (evE (F k) [] c_with_insides_0) (evE (F k) [] x_with_insides_0) [r0, r1, r2, r3, r4] (.tup [x, .tup [y, z]]) h = .ok (some (.tup [x, z])) h := by kernel_rfl
theorem with_room_a {k : Nat} {r0 r1 r2 r3 r4 : Option D} (h : Hh) : ∀ (ks new : Ks), ks.len = new.len → A2 (fun x y => lcTurn (.tu [3, 4]) (evE (F k) [] c_with_insides_0) (evE (F k) [] x_with_insides_0) [r0, r1, r2, r3, r4] x h = .ok (some y) h) (zipD new.Ds ks.Fs) (Ks.with ks new).Fs
  | .nil, .nil, _ => .nil
  | .cons b kd r, .cons b' kd' s, hl => .cons (with_room_t h kd'.to kd.to (.bl b)) (with_room_a h r s (Nat.succ.inj hl))
  | .nil, .cons _ _ _, hl => by cases hl
  | .cons _ _ _, .nil, hl => by cases hl
theorem with_Ds : ∀ (ks new : Ks), ks.len = new.len → (Ks.with ks new).Ds = new.Ds
  | .nil, .nil, _ => rfl
  | .cons b kd r, .cons b' kd' s, hl => by show kd'.to :: (Ks.with r s).Ds = _; rw [with_Ds r s (Nat.succ.inj hl)]; rfl
  | .nil, .cons _ _ _, hl => by cases hl
  | .cons _ _ _, .nil, hl => by cases hl
theorem with_code_t {k : Nat} {r0 r1 r2 r3 r4 : Option D} (h : Hh) (x y z : D) : lcTurn (.tu [3, 4]) (evE (F k) [] c_with_insides_1) (evE (F k) [] x_with_insides_1) [r0, r1, r2, r3, r4] (.tup [x, .tup [y, z]]) h = .ok (some (.tup [y, x])) h := by kernel_rfl
theorem with_code_a {k : Nat} {r0 r1 r2 r3 r4 : Option D} (h : Hh) : ∀ (ks new : Ks) (n : Nat), ks.len = new.len → A2 (fun x y => lcTurn (.tu [3, 4]) (evE (F k) [] c_with_insides_1) (evE (F k) [] x_with_insides_1) [r0, r1, r2, r3, r4] x h = .ok (some y) h) (zipD new.Ds (enumD n ks.Ds)) (enumD n new.Ds)
  | .nil, .nil, _, _ => .nil
  | .cons b kd r, .cons b' kd' s, n, hl => .cons (with_code_t h kd'.to (.int n) kd.to) (with_code_a h r s (n + 1) (Nat.succ.inj hl))
  | .nil, .cons _ _ _, _, hl => by cases hl
  | .cons _ _ _, .nil, _, hl => by cases hl
theorem zipD_le (xs ys : List D) : (zipD xs ys).length ≤ xs.length := by simp only [zipD, List.length_zipWith]; omega
theorem v_tup2 {F : Fns} {G : List D} {c : D} {e : E} {ρ : PV.Env} {h : Hh} {x : D} (he : (evE F G e).v ρ h = .ok x h) : (evE F G (.tup (.cons (.con c) (.cons e .nil)))).v ρ h = .ok (.tup [c, x]) h := by
  show (R.bind ((R.bind ((evE F G e).v ρ h) fun x h1 => R.bind (.ok [] h1) fun xs h2 => .ok (x :: xs) h2)) fun xs h2 => R.ok (c :: xs) h2).bind _ = _
  rw [he]; rfl
theorem v_tup3 {F : Fns} {G : List D} {c y : D} {e e' : E} {ρ : PV.Env} {h : Hh} {x : D} (h1 : (evE F G e').v ρ h = .ok y h) (he : (evE F G e).v ρ h = .ok x h) : (evE F G (.tup (.cons (.con c) (.cons e' (.cons e .nil))))).v ρ h = .ok (.tup [c, y, x]) h := by
  show (R.bind (R.bind ((evE F G e').v ρ h) fun x h1 => R.bind ((R.bind ((evE F G e).v ρ h1) fun x h1 => R.bind (.ok [] h1) fun xs h2 => .ok (x :: xs) h2)) fun xs h2 => R.ok (x :: xs) h2) fun xs h2 => R.ok (c :: xs) h2).bind _ = _
  rw [h1, R.bind_ok, he]; rfl
theorem with_un (k : Nat) (h : Hh) (w : Un) (d e : Kd) : C (k + 1) 2 [Kd.to (.un w d), .tup [e.to]] h = .ok (Kd.to (.un w e)) h := by cases w <;> kernel_rfl
theorem with_mn (k : Nat) (h : Hh) (m : Mn) (ks new : Ks) (hl : ks.len = new.len) (hs : new.len ≤ 1000) : C (k + 1) 2 [Kd.to (.mn m ks), .tup new.Ds] h = .ok (Kd.to (.mn m (Ks.with ks new))) h := by
  have e0 := with_Ds ks new hl
  cases m with
  | row => show _ = R.ok (D.tup [.str "row", .tup (Ks.with ks new).Ds]) h; rw [e0]; kernel_rfl
  | one => show _ = R.ok (D.tup [.str "one", .tup (Ks.with ks new).Ds]) h; rw [e0]; kernel_rfl
  | not n => show _ = R.ok (D.tup [.str "not", .int n, .tup (Ks.with ks new).Ds]) h; rw [e0]; kernel_rfl
  | room =>
    have e : C (k + 1) 2 [Kd.to (.mn .room ks), .tup new.Ds] h = finR false h.length (rt (F k) ((evE (F k) [] (.tup (.cons (.con (.str "room")) (.cons (.bf .tuple (.cons e_with_insides_0 .nil)) .nil)))).v [some (.tup [.str "room", .tup ks.Fs]), some (.tup new.Ds), some (.str "room"), none, none] h) [.nil, sdrop 4 b_with_insides]) := by kernel_rfl
    rw [e, v_tup2 (v_tup (e := e_with_insides_0) (v_lc (xs := zipD new.Ds ks.Fs) (ys := (Ks.with ks new).Fs) (by kernel_rfl) (with_room_a h ks new hl) (by have := zipD_le new.Ds ks.Fs; rw [Ds_len] at this; omega)))]
    rw [rt_ok]; rfl
  | code n =>
    have e : C (k + 1) 2 [Kd.to (.mn (.code n) ks), .tup new.Ds] h = finR false h.length (rt (F k) ((evE (F k) [] (.tup (.cons (.con (.str "code")) (.cons (.idx (.var 0) (.con (.int 1))) (.cons (.bf .tuple (.cons e_with_insides_1 .nil)) .nil))))).v [some (.tup [.str "code", .int n, .tup (enumD 0 ks.Ds)]), some (.tup new.Ds), some (.str "code"), none, none] h) [.nil, sdrop 5 b_with_insides]) := by kernel_rfl
    rw [e, v_tup3 (y := .int n) (by kernel_rfl) (v_tup (e := e_with_insides_1) (v_lc (xs := zipD new.Ds (enumD 0 ks.Ds)) (ys := enumD 0 new.Ds) (by kernel_rfl) (with_code_a h ks new 0 hl) (by have := zipD_le new.Ds (enumD 0 ks.Ds); rw [Ds_len] at this; omega)))]
    show _ = R.ok (D.tup [.str "code", .int n, .tup (enumD 0 (Ks.with ks new).Ds)]) h
    rw [e0, rt_ok]; rfl
theorem with_leaf (k : Nat) (h : Hh) : (C (k + 1) 2 [Kd.to .int, .tup []] h = .ok (Kd.to .int) h) ∧ (∀ n, C (k + 1) 2 [Kd.to (.free n), .tup []] h = .ok (Kd.to (.free n)) h) ∧ ∀ n, C (k + 1) 2 [Kd.to (.var n), .tup []] h = .ok (Kd.to (.var n)) h :=
  ⟨by kernel_rfl, fun n => by kernel_rfl, fun n => by kernel_rfl⟩
end K44
end

section
set_option maxRecDepth 100000
namespace K44
open PySem PV
section
variable {F : Fns} {G : List D} {c e : E} {a b rest : Ss} {ρ : PV.Env} {h h1 h2 : Hh} {x d : D} {i : Nat} {r : RS}
theorem i_t (hc : (evE F G c).t ρ h = .ok true h) (ha : evSs F G a ρ h = .ret d h2) : evSs F G (.cons (.ite c a b) rest) ρ h = .ret d h2 := by
  show (((evE F G c).t ρ h).then_ fun t h1 => if t then evSs F G a ρ h1 else evSs F G b ρ h1).then_ _ = _
  rw [hc]
  show (evSs F G a ρ h).then_ _ = _
  rw [ha]; rfl
theorem i_f (hc : (evE F G c).t ρ h = .ok false h) (hr : evSs F G rest ρ h = r) : evSs F G (.cons (.ite c a .nil) rest) ρ h = r := by
  show (((evE F G c).t ρ h).then_ fun t h1 => if t then evSs F G a ρ h1 else evSs F G .nil ρ h1).then_ _ = _
  rw [hc]; exact hr
theorem a_ (hv : (evE F G e).v ρ h = .ok x h1) (hr : evSs F G rest (ρ.set i (some x)) h1 = r) : evSs F G (.cons (.asg i e) rest) ρ h = r := by
  show (((evE F G e).v ρ h).then_ fun x h1 => .nxt (ρ.set i (some x)) h1).then_ _ = _
  rw [hv]; exact hr
theorem al_ (hv : (evE F G e).v ρ h = .ok x h1) (hr : evSs F G rest (ρ.set i (some x)) h1 = r) : evSs F G (.cons (.asgLc i e) rest) ρ h = r := by
  show (((evE F G e).v ρ h).then_ fun x h1 => .nxt (ρ.set i (some x)) h1).then_ _ = _
  rw [hv]; exact hr
theorem r_ (hv : (evE F G e).v ρ h = .ok x h1) : evSs F G (.cons (.ret e) rest) ρ h = .ret x h1 := by
  show (((evE F G e).v ρ h).then_ fun x h1 => .ret x h1).then_ _ = _
  rw [hv]; rfl
theorem vi_t {a b : E} {q : R D} (hc : (evE F G c).t ρ h = .ok true h) (ha : (evE F G a).v ρ h = q) : (evE F G (.ite c a b)).v ρ h = q := by
  show ((evE F G c).t ρ h).bind _ = _
  rw [hc]; exact ha
theorem vi_f {a b : E} {q : R D} (hc : (evE F G c).t ρ h = .ok false h) (ha : (evE F G b).v ρ h = q) : (evE F G (.ite c a b)).v ρ h = q := by
  show ((evE F G c).t ρ h).bind _ = _
  rw [hc]; exact ha
end
theorem c_ {k f : Nat} {fn : Fn} {xs : List D} {h h' : Hh} {d : D} (hf : T[f]? = some fn) (hl : xs.length = fn.P.length) (hz : fn.frz = false) (hb : evSs (F k) [] fn.body (xs.map some ++ List.replicate (fn.N.length - xs.length) none) h = .ret d h') : C (k + 1) f xs h = .ok d h' := by
  show (match T[f]? with
    | none => R.bad
    | some fn => if xs.length = fn.P.length then finR fn.frz h.length (evSs (F k) [] fn.body (xs.map some ++ List.replicate (fn.N.length - xs.length) none) h) else R.bad) = _
  rw [hf]
  dsimp only
  rw [if_pos hl, hb, hz]; rfl
/-! ### stored kinds -/
theorem sto_len : ∀ (ks : Ks) (t : Bool), (ks.sto t).len = ks.len
  | .nil, _ => rfl
  | .cons b k r, t => by show (r.sto t).len + 1 = _; rw [sto_len r]; rfl
theorem with_sto : ∀ ks : Ks, Ks.with ks (ks.sto false) = ks.sto false
  | .nil => rfl
  | .cons b k r => by show Ks.cons b k.sto (Ks.with r (r.sto false)) = Ks.cons (false || b) k.sto (r.sto false); rw [with_sto r]; rfl
theorem cod_len : ∀ (ks : Ks), (ks.cod).len = ks.len
  | .nil => rfl
  | .cons b k r => by show (r.cod).len + 1 = _; rw [cod_len r]; rfl
theorem with_cod : ∀ ks : Ks, Ks.with ks ks.cod = ks.cod
  | .nil => rfl
  | .cons b k r => by show Ks.cons b k.cod (Ks.with r r.cod) = _; rw [with_cod r]; rfl
theorem put_len (s : List Kd) (u : Nat) : ∀ (ks : Ks), (ks.put s u).len = ks.len
  | .nil => rfl
  | .cons b k r => by show (r.put s u).len + 1 = _; rw [put_len s u r]; rfl
theorem with_put (s : List Kd) (u : Nat) : ∀ ks : Ks, Ks.with ks (ks.put s u) = ks.put s u
  | .nil => rfl
  | .cons b k r => by show Ks.cons b (k.put s u) (Ks.with r (r.put s u)) = _; rw [with_put s u r]; rfl
theorem ins_len : ∀ d : Kd, d.sm → d.ins.length ≤ 1000
  | .int, _ => Nat.zero_le _
  | .free _, _ => Nat.zero_le _
  | .var _, _ => Nat.zero_le _
  | .un _ _, _ => by show 1 ≤ 1000; omega
  | .mn _ ks, h => by show ks.Ds.length ≤ 1000; rw [Ds_len]; exact h.1
theorem A2.turns {m : Nat} {h : Hh} {ρ : PV.Env} {i : Nat} {e : E} {xs ys : List D} (hb : A2 (fun x y => (evE (F m) [] e).v (ρ.set i (some x)) h = .ok y h) xs ys) : A2 (fun x y => lcTurn (.v i) (evE (F m) [] .miss) (evE (F m) [] e) ρ x h = .ok (some y) h) xs ys := by
  induction hb with
  | nil => exact .nil
  | cons p _ ih => exact .cons (turn1 p) ih
theorem A2.imp {α β : Type} {P Q : α → β → Prop} {xs : List α} {ys : List β} (h : A2 P xs ys) (f : ∀ a b, P a b → Q a b) : A2 Q xs ys := by
  induction h with
  | nil => exact .nil
  | cons p _ ih => exact .cons (f _ _ p) ih
/-- new = tuple([stored_kind_of(k) for k in insides(kind)]) -/
theorem sto_new {m : Nat} {h : Hh} {d : Kd} {ys : List D} (hs : d.sm) (hb : A2 (fun x y => C (m + 1) 5 [x] h = .ok y h) d.ins ys) : (evE (F (m + 1)) [] (.bf .tuple (.cons e_stored_kind_of_0 .nil))).v [some d.to, none, none] h = .ok (.tup ys) h :=
  v_tup (e := e_stored_kind_of_0) (v_lc (xs := d.ins) (it_ev (insides_ok m h d hs)) (A2.turns hb) (by have := ins_len d hs; omega))
theorem sto_true {m : Nat} {h : Hh} {r0 r1 r2 : Option D} : ∀ ks : Ks, A2 (fun x y => lcTurn (.v 2) (evE (F m) [] c_stored_kind_of_1) (evE (F m) [] x_stored_kind_of_1) [r0, r1, r2] x h = .ok (some y) h) (ks.sto false).Ds (ks.sto true).Fs
  | .nil => .nil
  | .cons b k r => .cons (turn1 rfl) (sto_true r)
mutual
theorem sto_ok (h : Hh) : ∀ (d : Kd) (n : Nat), d.sm → d.dep ≤ n → C (n + 3) 5 [d.to] h = .ok d.sto.to h
  | .int, n, _, _ => by kernel_rfl
  | .free v, n, _, _ => by kernel_rfl
  | .var v, n, _, _ => by kernel_rfl
  | .un w d, n + 1, hs, hd => by
    have ih := sto_ok h d n hs (Nat.le_of_succ_le_succ hd)
    refine c_ (fn := f_stored_kind_of) rfl rfl rfl (a_ (sto_new (m := n + 2) (d := .un w d) (ys := [d.sto.to]) hs (.cons ih .nil)) ?_)
    refine i_f (by cases w <;> kernel_rfl) (r_ ?_)
    exact with_un (n + 2) h w d d.sto
  | .mn m ks, n + 1, hs, hd => by
    have ih := stos_ok h ks false n hs.2 (Nat.le_of_succ_le_succ hd)
    refine c_ (fn := f_stored_kind_of) rfl rfl rfl (a_ (sto_new (m := n + 2) (d := .mn m ks) (ys := (ks.sto false).Ds) hs ih) ?_)
    have hl : ks.len ≤ 1000 := hs.1
    have hw := with_mn (n + 2) h m ks (ks.sto false) (sto_len ks false).symm (by rw [sto_len]; exact hl)
    rw [with_sto] at hw
    cases m with
    | row =>
      refine i_t (by kernel_rfl) (r_ (v_tup2 (v_tup (e := e_stored_kind_of_1) (v_lc (xs := (ks.sto false).Ds) (ys := (ks.sto true).Fs) (by kernel_rfl) (sto_true ks) ?_))))
      rw [Ds_len, sto_len]; omega
    | one => exact i_f (by kernel_rfl) (r_ hw)
    | room => exact i_f (by kernel_rfl) (r_ hw)
    | not v => exact i_f (by kernel_rfl) (r_ hw)
    | code v => exact i_f (by kernel_rfl) (r_ hw)
theorem stos_ok (h : Hh) : ∀ (ks : Ks) (t : Bool) (n : Nat), ks.sm → ks.dep ≤ n → A2 (fun x y => C (n + 3) 5 [x] h = .ok y h) ks.Ds (ks.sto t).Ds
  | .nil, _, _, _, _ => .nil
  | .cons b k r, t, n, hs, hd => .cons (sto_ok h k n hs.1 (Nat.le_trans (Nat.le_max_left _ _) hd)) (stos_ok h r t n hs.2 (Nat.le_trans (Nat.le_max_right _ _) hd))
end
end K44
end

section
set_option maxRecDepth 100000
namespace K44
open PySem PV
/-! ### kinds of code -/
theorem cod_new {m : Nat} {h : Hh} {d : Kd} {ys : List D} (hs : d.sm) (hb : A2 (fun x y => C (m + 1) 6 [x] h = .ok y h) d.ins ys) : (evE (F (m + 1)) [] (.bf .tuple (.cons e_code_kind_of_0 .nil))).v [some d.to, none, none] h = .ok (.tup ys) h :=
  v_tup (e := e_code_kind_of_0) (v_lc (xs := d.ins) (it_ev (insides_ok m h d hs)) (A2.turns hb) (by have := ins_len d hs; omega))
theorem tenum_ok {xs : List D} (hz : xs.length ≤ 1000) : tenumOp (.tup xs) = some (.tup (enumD 0 xs)) := if_pos (sz_of (by omega))
mutual
theorem cod_ok (h : Hh) : ∀ (d : Kd) (n : Nat), d.sm → d.dep ≤ n → C (n + 3) 6 [d.to] h = .ok d.cod.to h
  | .int, n, _, _ => by kernel_rfl
  | .free v, n, _, _ => by kernel_rfl
  | .var v, n, _, _ => by kernel_rfl
  | .un w d, n + 1, hs, hd => by
    have ih := cod_ok h d n hs (Nat.le_of_succ_le_succ hd)
    refine c_ (fn := f_code_kind_of) rfl rfl rfl (a_ (cod_new (m := n + 2) (d := .un w d) (ys := [d.cod.to]) hs (.cons ih .nil)) (r_ (vi_f (by cases w <;> kernel_rfl) ?_)))
    exact with_un (n + 2) h w d d.cod
  | .mn m ks, n + 1, hs, hd => by
    have ih := cods_ok h ks n hs.2 (Nat.le_of_succ_le_succ hd)
    refine c_ (fn := f_code_kind_of) rfl rfl rfl (a_ (cod_new (m := n + 2) (d := .mn m ks) (ys := (ks.cod).Ds) hs ih) (r_ ?_))
    have hl : ks.len ≤ 1000 := hs.1
    have hw := with_mn (n + 2) h m ks ks.cod (cod_len ks).symm (by rw [cod_len]; exact hl)
    rw [with_cod] at hw
    cases m with
    | row => exact vi_f (by kernel_rfl) hw
    | one => exact vi_f (by kernel_rfl) hw
    | room => exact vi_f (by kernel_rfl) hw
    | not v =>
      refine vi_t (by kernel_rfl) (v_tup3 (y := .int v) (by kernel_rfl) ?_)
      show R.opt (tenumOp (.tup ks.cod.Ds)) h = _
      rw [tenum_ok (by rw [Ds_len, cod_len]; exact hl)]; rfl
    | code v => exact vi_f (by kernel_rfl) hw
theorem cods_ok (h : Hh) : ∀ (ks : Ks) (n : Nat), ks.sm → ks.dep ≤ n → A2 (fun x y => C (n + 3) 6 [x] h = .ok y h) ks.Ds (ks.cod).Ds
  | .nil, _, _, _ => .nil
  | .cons b k r, n, hs, hd => .cons (cod_ok h k n hs.1 (Nat.le_trans (Nat.le_max_left _ _) hd)) (cods_ok h r n hs.2 (Nat.le_trans (Nat.le_max_right _ _) hd))
end
/-! ### put_below -/
theorem sub_nat {v u : Nat} (h : u ≤ v) : (v : Int) - (u : Int) = ((v - u : Nat) : Int) := (Int.ofNat_sub h).symm
theorem len_map (ss : List Kd) : (ss.map Kd.to).length = ss.length := List.length_map ..
/-- 'var' against the kinds that are put in -/
theorem put_var_v {m : Nat} {h : Hh} {v u : Nat} {ss : List Kd} {c i e : E} {ρ : PV.Env} (hu : u ≤ v) (hlt : (evE (F m) [] c).t ρ h = .ok (decide (((v - u : Nat) : Int) < ((ss.map Kd.to).length : Int))) h)
    (hix : (evE (F m) [] i).v ρ h = R.opt (L2.atI (ss.map Kd.to) ((v - u : Nat) : Int)) h) (hel : (evE (F m) [] e).v ρ h = .ok (.tup [.str "var", .int ((v : Int) - ((ss.map Kd.to).length : Int))]) h) :
    (evE (F m) [] (.ite c i e)).v ρ h = .ok (Kd.to (Kd.put ss u (.var v))) h := by
  have hp : Kd.put ss u (.var v) = match ss[v - u]? with | some k => k | none => .var (v - ss.length) := by
    show (if v < u then _ else _) = _
    rw [if_neg (by omega)] <;> rfl
  by_cases hc : v - u < ss.length
  · rw [decide_eq_true (by rw [len_map]; omega)] at hlt
    refine vi_t hlt ?_
    rw [hix, L2.atI_nat (j := v - u) (v := (ss[v - u]).to) (by rw [List.getElem?_map, List.getElem?_eq_getElem hc]; rfl)]
    rw [hp, List.getElem?_eq_getElem hc]; rfl
  · rw [decide_eq_false (by rw [len_map]; omega)] at hlt
    refine vi_f hlt ?_
    rw [hel, hp, List.getElem?_eq_none (by omega), len_map, sub_nat (by omega)]; rfl
theorem put_new {m : Nat} {h : Hh} {d : Kd} {u mo : Int} {ss ys : List D} {r3 : Option D} (hs : d.sm) (hb : A2 (fun x y => C (m + 1) 3 [x, .int mo, .tup ss] h = .ok y h) d.ins ys) :
    (evE (F (m + 1)) [] (.bf .tuple (.cons e_put_below_0 .nil))).v [some d.to, some (.int u), some (.tup ss), r3, some (.int mo), none] h = .ok (.tup ys) h :=
  v_tup (e := e_put_below_0) (v_lc (xs := d.ins) (it_ev (insides_ok m h d hs)) (A2.turns hb) (by have := ins_len d hs; omega))
theorem call2_ {m : Nat} {h : Hh} {ρ : PV.Env} {i : Nat} {e : E} {x y : D} {q : R D} (hi : (evE (F m) [] (.var i)).v ρ h = .ok x h) (he : (evE (F m) [] e).v ρ h = .ok y h) (hq : C m 2 [x, y] h = q) : (evE (F m) [] (.call 2 (.cons (.var i) (.cons e .nil)))).v ρ h = q := by
  show (((evE (F m) [] (.var i)).v ρ h).bind fun x h1 => (((evE (F m) [] e).v ρ h1).bind fun x h1 => R.bind (.ok [] h1) fun xs h2 => .ok (x :: xs) h2).bind fun xs h2 => .ok (x :: xs) h2).bind _ = _
  rw [hi, R.bind_ok, he]
  exact hq
mutual
theorem put_ok (ss : List Kd) (h : Hh) : ∀ (d : Kd) (u n : Nat), d.sm → d.dep ≤ n → C (n + 3) 3 [d.to, .int u, .tup (ss.map Kd.to)] h = .ok (d.put ss u).to h
  | .int, u, n, _, _ => by kernel_rfl
  | .free v, u, n, _, _ => by kernel_rfl
  | .var v, u, n, _, _ => by
    refine c_ (fn := f_put_below) rfl rfl rfl (i_t (by kernel_rfl) (a_ (h1 := h) (x := .int ((v : Int) - u)) (by kernel_rfl) ?_))
    have hc : (evE (F (n + 2)) [] (.cmp .lt (.var 3) (.con (.int 0)))).t [some (Kd.to (.var v)), some (.int u), some (.tup (ss.map Kd.to)), some (.int ((v : Int) - u)), none, none] h = .ok (decide ((v : Int) - u < 0)) h := by kernel_rfl
    by_cases hu : v < u
    · rw [decide_eq_true (by omega)] at hc
      refine i_t hc (r_ ?_)
      have : Kd.put ss u (.var v) = .var v := if_pos hu
      rw [this]; rfl
    · rw [decide_eq_false (by omega)] at hc
      refine i_f hc (r_ ?_)
      rw [sub_nat (by omega)]
      exact put_var_v (by omega) (by kernel_rfl) (by kernel_rfl) (by kernel_rfl)
  | .un w d, u, n + 1, hs, hd => by
    have ih := put_ok ss h d (u + w.binds) n hs (Nat.le_of_succ_le_succ hd)
    refine c_ (fn := f_put_below) rfl rfl rfl (i_f (by cases w <;> kernel_rfl) (a_ (h1 := h) (x := .int ((u + w.binds : Nat) : Int)) (by cases w <;> kernel_rfl) (r_ (call2_ (x := Kd.to (.un w d)) (y := .tup [(d.put ss (u + w.binds)).to]) rfl (put_new (m := n + 2) (d := .un w d) hs (.cons ih .nil)) ?_))))
    exact with_un (n + 2) h w d _
  | .mn m ks, u, n + 1, hs, hd => by
    have ih := puts_ok ss h ks (u + m.binds) n hs.2 (Nat.le_of_succ_le_succ hd)
    have hl : ks.len ≤ 1000 := hs.1
    have hw := with_mn (n + 2) h m ks (ks.put ss (u + m.binds)) (put_len ss _ ks).symm (by rw [put_len]; exact hl)
    rw [with_put] at hw
    exact c_ (fn := f_put_below) rfl rfl rfl (i_f (by cases m <;> kernel_rfl) (a_ (h1 := h) (x := .int ((u + m.binds : Nat) : Int)) (by cases m <;> kernel_rfl) (r_ (call2_ (x := Kd.to (.mn m ks)) rfl (put_new (m := n + 2) (d := .mn m ks) hs ih) hw))))
theorem puts_ok (ss : List Kd) (h : Hh) : ∀ (ks : Ks) (u n : Nat), ks.sm → ks.dep ≤ n → A2 (fun x y => C (n + 3) 3 [x, .int u, .tup (ss.map Kd.to)] h = .ok y h) ks.Ds (ks.put ss u).Ds
  | .nil, _, _, _, _ => .nil
  | .cons b k r, u, n, hs, hd => .cons (put_ok ss h k u n hs.1 (Nat.le_trans (Nat.le_max_left _ _) hd)) (puts_ok ss h r u n hs.2 (Nat.le_trans (Nat.le_max_right _ _) hd))
end
/-! ### opened, of ('some', ..) -/
theorem opened_ok (ss : List Kd) (h : Hh) (d : Kd) (n : Nat) (hs : d.sm) (hd : d.dep ≤ n) : C (n + 4) 4 [Kd.to (.un .som d), .tup (ss.map Kd.to)] h = .ok (d.put ss 0).to h := by
  have ih := put_ok ss h d 0 n hs hd
  have hn : (evE (F (n + 3)) [] (.bf .tuple (.cons e_opened_0 .nil))).v [some (Kd.to (.un .som d)), some (.tup (ss.map Kd.to)), none, none] h = .ok (.tup [(d.put ss 0).to]) h :=
    v_tup (e := e_opened_0) (v_lc (xs := [d.to]) (it_ev (insides_ok (n + 2) h (.un .som d) hs)) (A2.turns (.cons ih .nil)) (by show 1 ≤ 16777216; omega))
  refine c_ (fn := f_opened) rfl rfl rfl (a_ (call2_ (x := Kd.to (.un .som d)) rfl hn (with_un (n + 2) h .som d _)) (i_t (by kernel_rfl) (r_ (by kernel_rfl))))
end K44
end

section
set_option maxRecDepth 100000
namespace K44
open PySem PV
theorem v_tup2' {F : Fns} {G : List D} {c : D} {e0 e : E} {ρ : PV.Env} {h : Hh} {x : D} (h0 : (evE F G e0).v ρ h = .ok c h) (he : (evE F G e).v ρ h = .ok x h) : (evE F G (.tup (.cons e0 (.cons e .nil)))).v ρ h = .ok (.tup [c, x]) h := by
  show (R.bind ((evE F G e0).v ρ h) fun x h1 => R.bind ((R.bind ((evE F G e).v ρ h1) fun x h1 => R.bind (.ok [] h1) fun xs h2 => .ok (x :: xs) h2)) fun xs h2 => R.ok (x :: xs) h2).bind _ = _
  rw [h0, R.bind_ok, he]; rfl
theorem A2.get {α β : Type} {P : α → β → Prop} : ∀ {xs : List α} {ys : List β} {k : Nat} {x : α}, A2 P xs ys → xs[k]? = some x → ∃ y, ys[k]? = some y ∧ P x y
  | _, _, _, _, .nil, e => (by simp at e)
  | _, _, 0, _, .cons p _, e => by simp at e; subst e; exact ⟨_, rfl, p⟩
  | _, _, k + 1, _, .cons _ t, e => by
    obtain ⟨y, h1, h2⟩ := A2.get (k := k) t (by simpa using e)
    exact ⟨y, by simpa using h1, h2⟩
theorem A2.of_get {α β : Type} {P : α → β → Prop} : ∀ {xs : List α} {ys : List β}, xs.length = ys.length → (∀ (k : Nat) (x : α) (y : β), xs[k]? = some x → ys[k]? = some y → P x y) → A2 P xs ys
  | [], [], _, _ => .nil
  | [], _ :: _, hl, _ => by cases hl
  | _ :: _, [], hl, _ => by cases hl
  | x :: xs, y :: ys, hl, h => .cons (h 0 x y rfl rfl) (A2.of_get (Nat.succ.inj hl) fun k a b ha hb => h (k + 1) a b (by simpa using ha) (by simpa using hb))
theorem enumD_get : ∀ (ys : List D) (n k : Nat), (enumD n ys)[k]? = ys[k]?.map fun y => .tup [.int ((n + k : Nat) : Int), y]
  | [], _, _ => by simp [enumD]
  | y :: ys, n, 0 => by simp [enumD]
  | y :: ys, n, k + 1 => by
    show (enumD (n + 1) ys)[k]? = _
    rw [enumD_get ys (n + 1) k]
    simp [Nat.add_comm, Nat.add_left_comm]
theorem rngD_get (n k : Nat) : (rngD 0 (n : Int))[k]? = if k < n then some (.int (k : Int)) else none := by
  unfold rngD
  rw [List.getElem?_map]
  simp only [Int.sub_zero, Int.toNat_natCast]
  split
  · rename_i hk; rw [List.getElem?_range hk]; simp
  · rename_i hk; rw [List.getElem?_eq_none (by simp; omega)]; rfl
theorem rngD_len (n : Nat) : (rngD 0 (n : Int)).length = n := by simp [rngD]
theorem h62 : (2 : Int) ^ 62 = 4611686018427387904 := by decide +kernel
theorem rng_ok {n : Nat} (hn : n ≤ 1000) : rngOk 0 (n : Int) = true := by
  unfold rngOk
  rw [h62]
  (simp only [Bool.and_eq_true, decide_eq_true_eq])
  omega
def rngSrc (x : D) (h : Hh) : R Src := R.opt (x.isInt.bind fun n => if rngOk 0 n then some ⟨rngD 0 n, none⟩ else none) h
theorem t1 {F : Fns} {G : List D} {e : E} {ρ : PV.Env} {h : Hh} : evI F G (.rng e) ρ h = ((evE F G e).v ρ h).bind rngSrc := rfl
theorem t2 {h : Hh} {n : Int} (hn : rngOk 0 n = true) : rngSrc (.int n) h = .ok ⟨rngD 0 n, none⟩ h := by
  unfold rngSrc D.isInt
  rw [Option.bind_some, if_pos hn, R.opt_some]
theorem it_rng {F : Fns} {G : List D} {e : E} {ρ : PV.Env} {h : Hh} {n : Nat} (hn : n ≤ 1000) (he : (evE F G e).v ρ h = .ok (.int n) h) : evI F G (.rng e) ρ h = .ok ⟨rngD 0 n, none⟩ h := by
  rw [t1, he, R.bind_ok, t2 (rng_ok hn)]
/-! ### _law_stored -/
mutual
/-- no room, no code -/
def Kd.pS : Kd → Prop
  | .un _ k => k.pS
  | .mn .room _ => False
  | .mn (.code _) _ => False
  | .mn _ ks => ks.pS
  | _ => True
def Ks.pS : Ks → Prop
  | .nil => True
  | .cons _ k r => k.pS ∧ r.pS
end
mutual
/-- no row, no code -/
def Kd.pC : Kd → Prop
  | .un _ k => k.pC
  | .mn .row _ => False
  | .mn (.code _) _ => False
  | .mn _ ks => ks.pC
  | _ => True
def Ks.pC : Ks → Prop
  | .nil => True
  | .cons _ k r => k.pC ∧ r.pC
end
theorem lsto_new {m : Nat} {h : Hh} {w : Str} {zs xs ys : List D} {e : E} (hi : (evE (F m) [] e).v [some (.tup zs), some (.str w), none, none] h = .ok (.tup xs) h) (hl : xs.length ≤ 1000) (hb : A2 (fun x y => C m 11 [x] h = .ok y h) xs ys) :
    (evE (F m) [] (.bf .tuple (.cons (.lc (.v 3) (.ev e) .miss (.call 11 (.cons (.var 3) .nil))) .nil))).v [some (.tup zs), some (.str w), none, none] h = .ok (.tup ys) h :=
  v_tup (v_lc (it_ev hi) (A2.turns hb) (by omega))
theorem lsto_true {m : Nat} {h : Hh} {r0 r1 r2 r3 : Option D} : ∀ ks : Ks, A2 (fun x y => lcTurn (.v 3) (evE (F m) [] c__law_stored_1) (evE (F m) [] x__law_stored_1) [r0, r1, r2, r3] x h = .ok (some y) h) (ks.sto false).Ds (ks.sto true).Fs
  | .nil => .nil
  | .cons b k r => .cons (turn1 rfl) (lsto_true r)
theorem vcall1 {m f : Nat} {h : Hh} {ρ : PV.Env} {e : E} {x : D} {q : R D} (he : (evE (F m) [] e).v ρ h = .ok x h) (hq : C m f [x] h = q) : (evE (F m) [] (.call f (.cons e .nil))).v ρ h = q := by
  show (((evE (F m) [] e).v ρ h).bind fun x h1 => R.bind (.ok [] h1) fun xs h2 => .ok (x :: xs) h2).bind _ = _
  rw [he]; exact hq
mutual
theorem lsto_ok (h : Hh) : ∀ (d : Kd) (n : Nat), d.sm → d.pS → d.dep ≤ n → C (n + 1) 11 [d.to] h = .ok d.sto.to h
  | .int, n, _, _, _ => by kernel_rfl
  | .free v, n, _, _, _ => by kernel_rfl
  | .var v, n, _, _, _ => by kernel_rfl
  | .un w d, n + 1, hs, hp, hd => by
    have ih := lsto_ok h d n hs hp (Nat.le_of_succ_le_succ hd)
    refine c_ (fn := f__law_stored) rfl rfl rfl (a_ (h1 := h) (x := .str w.nm) (by cases w <;> kernel_rfl) (i_f (by cases w <;> kernel_rfl) (i_f (by cases w <;> kernel_rfl) (r_ (vi_t (by cases w <;> kernel_rfl) (v_tup2' (c := .str w.nm) rfl (vcall1 (x := d.to) (by cases w <;> kernel_rfl) ih)))))))
  | .mn m ks, n + 1, hs, hp, hd => by
    have hl : ks.len ≤ 1000 := hs.1
    cases m with
    | row =>
      have ih := lstos_ok h ks false n hs.2 hp (Nat.le_of_succ_le_succ hd)
      refine c_ (fn := f__law_stored) rfl rfl rfl (a_ (h1 := h) (x := .str "row") (by kernel_rfl) (i_t (by kernel_rfl) (a_ (h1 := h) (x := .tup (ks.sto false).Ds) (lsto_new (xs := ks.Ds) (by kernel_rfl) (by rw [Ds_len]; exact hl) ih) (r_ (vi_t (by kernel_rfl) (v_tup2 (v_tup (e := e__law_stored_1) (v_lc (xs := (ks.sto false).Ds) (ys := (ks.sto true).Fs) (by kernel_rfl) (lsto_true ks) ?_))))))))
      rw [Ds_len, sto_len]; omega
    | one =>
      have ih := lstos_ok h ks false n hs.2 hp (Nat.le_of_succ_le_succ hd)
      exact c_ (fn := f__law_stored) rfl rfl rfl (a_ (h1 := h) (x := .str "one") (by kernel_rfl) (i_t (by kernel_rfl) (a_ (h1 := h) (x := .tup (ks.sto false).Ds) (lsto_new (xs := ks.Ds) (by kernel_rfl) (by rw [Ds_len]; exact hl) ih) (r_ (vi_f (by kernel_rfl) (v_tup2 rfl))))))
    | not v =>
      have ih := lstos_ok h ks false n hs.2 hp (Nat.le_of_succ_le_succ hd)
      exact c_ (fn := f__law_stored) rfl rfl rfl (a_ (h1 := h) (x := .str "not") (by kernel_rfl) (i_f (by kernel_rfl) (i_t (by kernel_rfl) (r_ (v_tup3 (y := .int v) (by kernel_rfl) (lsto_new (xs := ks.Ds) (by kernel_rfl) (by rw [Ds_len]; exact hl) ih))))))
    | room => exact hp.elim
    | code v => exact hp.elim
theorem lstos_ok (h : Hh) : ∀ (ks : Ks) (t : Bool) (n : Nat), ks.sm → ks.pS → ks.dep ≤ n → A2 (fun x y => C (n + 1) 11 [x] h = .ok y h) ks.Ds (ks.sto t).Ds
  | .nil, _, _, _, _, _ => .nil
  | .cons b k r, t, n, hs, hp, hd => .cons (lsto_ok h k n hs.1 hp.1 (Nat.le_trans (Nat.le_max_left _ _) hd)) (lstos_ok h r t n hs.2 hp.2 (Nat.le_trans (Nat.le_max_right _ _) hd))
end
/-! ### _law_of_code -/
theorem lcod_flags {m : Nat} {h : Hh} {r0 r1 r2 r4 : Option D} : ∀ {ks : Ks}, A2 (fun x y => C m 12 [x] h = .ok y h) ks.Ds ks.cod.Ds → A2 (fun x y => lcTurn (.v 3) (evE (F m) [] .miss) (evE (F m) [] x__law_of_code_1) [r0, r1, r2, none, r4] x h = .ok (some y) h) ks.Fs ks.cod.Fs
  | .nil, _ => .nil
  | .cons b k r, .cons p t => .cons (turn1 (v_tup2' (vcall1 (x := k.to) rfl p) rfl)) (lcod_flags t)
mutual
theorem lcod_ok (h : Hh) : ∀ (d : Kd) (n : Nat), d.sm → d.pC → d.dep ≤ n → C (n + 1) 12 [d.to] h = .ok d.cod.to h
  | .int, n, _, _, _ => by kernel_rfl
  | .free v, n, _, _, _ => by kernel_rfl
  | .var v, n, _, _, _ => by kernel_rfl
  | .un w d, n + 1, hs, hp, hd => by
    have ih := lcod_ok h d n hs hp (Nat.le_of_succ_le_succ hd)
    refine c_ (fn := f__law_of_code) rfl rfl rfl (a_ (h1 := h) (x := .str w.nm) (by cases w <;> kernel_rfl) (i_f (by cases w <;> kernel_rfl) (i_f (by cases w <;> kernel_rfl) (i_f (by cases w <;> kernel_rfl) (r_ (vi_t (by cases w <;> kernel_rfl) (v_tup2' (c := .str w.nm) rfl (vcall1 (x := d.to) (by cases w <;> kernel_rfl) ih))))))))
  | .mn m ks, n + 1, hs, hp, hd => by
    have hl : ks.len ≤ 1000 := hs.1
    cases m with
    | row => exact hp.elim
    | code v => exact hp.elim
    | one =>
      have ih := lcods_ok h ks n hs.2 hp (Nat.le_of_succ_le_succ hd)
      exact c_ (fn := f__law_of_code) rfl rfl rfl (a_ (h1 := h) (x := .str "one") (by kernel_rfl) (i_f (by kernel_rfl) (i_f (by kernel_rfl) (i_t (by kernel_rfl) (r_ (v_tup2 (v_tup (e := e__law_of_code_2) (v_lc (xs := ks.Ds) (it_ev (by kernel_rfl)) (A2.turns ih) (by rw [Ds_len]; omega)))))))))
    | room =>
      have ih := lcods_ok h ks n hs.2 hp (Nat.le_of_succ_le_succ hd)
      exact c_ (fn := f__law_of_code) rfl rfl rfl (a_ (h1 := h) (x := .str "room") (by kernel_rfl) (i_f (by kernel_rfl) (i_t (by kernel_rfl) (r_ (v_tup2 (v_tup (e := e__law_of_code_1) (v_lc (xs := ks.Fs) (it_ev (by kernel_rfl)) (lcod_flags ih) (by rw [Fs_len]; omega))))))))
    | not v =>
      have ih := lcods_ok h ks n hs.2 hp (Nat.le_of_succ_le_succ hd)
      refine c_ (fn := f__law_of_code) rfl rfl rfl (a_ (h1 := h) (x := .str "not") (by kernel_rfl) (i_t (by kernel_rfl) (r_ (v_tup3 (y := .int v) (by kernel_rfl) (v_tup (e := e__law_of_code_0) (v_lc (xs := rngD 0 (ks.Ds.length : Int)) (it_rng (by rw [Ds_len]; exact hl) (by kernel_rfl)) ?_ (by rw [rngD_len, Ds_len]; omega)))))))
      refine A2.of_get (by rw [rngD_len, enumD_len, Ds_len, Ds_len, cod_len]) fun k x y hx hy => ?_
      rw [rngD_get] at hx
      split at hx
      · rename_i hk
        cases hx
        rw [enumD_get] at hy
        obtain ⟨z, hz, pz⟩ := A2.get (k := k) ih (List.getElem?_eq_getElem hk)
        rw [hz] at hy
        cases hy
        show lcTurn _ _ _ _ _ _ = .ok (some (.tup [.int ((0 + k : Nat) : Int), z])) h
        rw [Nat.zero_add]
        refine turn1 (v_tup2' (c := .int (k : Int)) rfl (vcall1 (x := ks.Ds[k]) ?_ pz))
        show R.opt (L2.atI ks.Ds (k : Int)) h = _
        rw [L2.atI_nat (List.getElem?_eq_getElem hk)]; rfl
      · cases hx
theorem lcods_ok (h : Hh) : ∀ (ks : Ks) (n : Nat), ks.sm → ks.pC → ks.dep ≤ n → A2 (fun x y => C (n + 1) 12 [x] h = .ok y h) ks.Ds (ks.cod).Ds
  | .nil, _, _, _, _ => .nil
  | .cons b k r, n, hs, hp, hd => .cons (lcod_ok h k n hs.1 hp.1 (Nat.le_trans (Nat.le_max_left _ _) hd)) (lcods_ok h r n hs.2 hp.2 (Nat.le_trans (Nat.le_max_right _ _) hd))
end
end K44
end

section
set_option maxRecDepth 100000
namespace K44
open PySem PV
theorem vcall3 {m f : Nat} {h : Hh} {ρ : PV.Env} {e1 e2 e3 : E} {x y z : D} {q : R D} (h1 : (evE (F m) [] e1).v ρ h = .ok x h) (h2 : (evE (F m) [] e2).v ρ h = .ok y h) (h3 : (evE (F m) [] e3).v ρ h = .ok z h) (hq : C m f [x, y, z] h = q) :
    (evE (F m) [] (.call f (.cons e1 (.cons e2 (.cons e3 .nil))))).v ρ h = q := by
  show (((evE (F m) [] e1).v ρ h).bind fun x h1 => (((evE (F m) [] e2).v ρ h1).bind fun x h1 => (((evE (F m) [] e3).v ρ h1).bind fun x h1 => R.bind (.ok [] h1) fun xs h2 => .ok (x :: xs) h2).bind fun xs h2 => .ok (x :: xs) h2).bind fun xs h2 => .ok (x :: xs) h2).bind _ = _
  rw [h1, R.bind_ok, h2, R.bind_ok, h3]; exact hq
/-! ### _law_put -/
section
variable {m : Nat} {h : Hh} {ss : List D} {u mo : Int} {r0 r3 r4 r5 r6 r7 : Option D}
theorem lput_rows {ks : Ks} {s : List Kd} {v : Nat} (ih : A2 (fun x y => C m 10 [x, .int u, .tup ss] h = .ok y h) ks.Ds (ks.put s v).Ds) :
    A2 (fun x y => lcTurn (.v 5) (evE (F m) [] c__law_put_0) (evE (F m) [] x__law_put_0) [r0, some (.int u), some (.tup ss), r3, r4, none, r6, r7] x h = .ok (some y) h) ks.Ds (ks.put s v).Ds :=
  ih.imp fun x y p => turn1 (vcall3 (x := x) rfl rfl rfl p)
theorem lput_room : ∀ {ks : Ks} {s : List Kd} {v : Nat}, A2 (fun x y => C m 10 [x, .int u, .tup ss] h = .ok y h) ks.Ds (ks.put s v).Ds →
    A2 (fun x y => lcTurn (.v 6) (evE (F m) [] c__law_put_1) (evE (F m) [] x__law_put_1) [r0, some (.int u), some (.tup ss), r3, r4, r5, none, r7] x h = .ok (some y) h) ks.Fs (ks.put s v).Fs
  | .nil, _, _, _ => .nil
  | .cons b k r, _, _, .cons p t => .cons (turn1 (v_tup2' (vcall3 (x := k.to) rfl rfl rfl p) rfl)) (lput_room t)
theorem lput_code : ∀ {ks : Ks} {s : List Kd} {v : Nat} (n : Nat), A2 (fun x y => C m 10 [x, .int mo, .tup ss] h = .ok y h) ks.Ds (ks.put s v).Ds →
    A2 (fun x y => lcTurn (.v 6) (evE (F m) [] c__law_put_2) (evE (F m) [] x__law_put_2) [r0, some (.int u), some (.tup ss), r3, r4, r5, none, some (.int mo)] x h = .ok (some y) h) (enumD n ks.Ds) (enumD n (ks.put s v).Ds)
  | .nil, _, _, _, _ => .nil
  | .cons b k r, _, _, n, .cons p t => .cons (turn1 (v_tup2' (c := .int n) rfl (vcall3 (x := k.to) rfl rfl rfl p))) (lput_code (n + 1) t)
theorem lput_not {ks : Ks} {s : List Kd} {v : Nat} {d : D} (hmo : (evE (F m) [] (.bin .add (.var 1) (.idx (.var 0) (.con (.int 1))))).v [some d, some (.int u), some (.tup ss), r3, r4, none, r6, r7] h = .ok (.int mo) h)
    (hmo2 : ∀ x, (evE (F m) [] (.bin .add (.var 1) (.idx (.var 0) (.con (.int 1))))).v [some d, some (.int u), some (.tup ss), r3, r4, some x, r6, r7] h = .ok (.int mo) h)
    (ih : A2 (fun x y => C m 10 [x, .int mo, .tup ss] h = .ok y h) ks.Ds (ks.put s v).Ds) :
    A2 (fun x y => lcTurn (.v 5) (evE (F m) [] c__law_put_3) (evE (F m) [] x__law_put_3) [some d, some (.int u), some (.tup ss), r3, r4, none, r6, r7] x h = .ok (some y) h) ks.Ds (ks.put s v).Ds :=
  ih.imp fun x y p => turn1 (vcall3 (x := x) rfl (hmo2 x) rfl p)
end
mutual
theorem lput_ok (ss : List Kd) (h : Hh) : ∀ (d : Kd) (u n : Nat), d.sm → d.dep ≤ n → C (n + 1) 10 [d.to, .int u, .tup (ss.map Kd.to)] h = .ok (d.put ss u).to h
  | .int, u, n, _, _ => by kernel_rfl
  | .free v, u, n, _, _ => by kernel_rfl
  | .var v, u, n, _, _ => by
    refine c_ (fn := f__law_put) rfl rfl rfl (a_ (h1 := h) (x := .str "var") (by kernel_rfl) (i_t (by kernel_rfl) (a_ (h1 := h) (x := .int ((v : Int) - u)) (by kernel_rfl) ?_)))
    have hc : (evE (F n) [] (.cmp .lt (.var 4) (.con (.int 0)))).t [some (Kd.to (.var v)), some (.int u), some (.tup (ss.map Kd.to)), some (.str "var"), some (.int ((v : Int) - u)), none, none, none] h = .ok (decide ((v : Int) - u < 0)) h := by kernel_rfl
    by_cases hu : v < u
    · rw [decide_eq_true (by omega)] at hc
      refine i_t hc (r_ ?_)
      have : Kd.put ss u (.var v) = .var v := if_pos hu
      rw [this]; rfl
    · rw [decide_eq_false (by omega)] at hc
      refine i_f hc (r_ ?_)
      rw [sub_nat (by omega)]
      exact put_var_v (by omega) (by kernel_rfl) (by kernel_rfl) (by kernel_rfl)
  | .un w d, u, n + 1, hs, hd => by
    have ih := lput_ok ss h d (u + w.binds) n hs (Nat.le_of_succ_le_succ hd)
    exact c_ (fn := f__law_put) rfl rfl rfl (a_ (h1 := h) (x := .str w.nm) (by cases w <;> kernel_rfl) (i_f (by cases w <;> kernel_rfl) (i_f (by cases w <;> kernel_rfl) (i_f (by cases w <;> kernel_rfl) (i_f (by cases w <;> kernel_rfl) (i_f (by cases w <;> kernel_rfl) (i_t (by cases w <;> kernel_rfl)
      (r_ (v_tup2' (c := .str w.nm) rfl (vcall3 (x := d.to) (y := .int ((u + w.binds : Nat) : Int)) (by cases w <;> kernel_rfl) (by cases w <;> kernel_rfl) rfl ih))))))))))
  | .mn m ks, u, n + 1, hs, hd => by
    have ih := lputs_ok ss h ks (u + m.binds) n hs.2 (Nat.le_of_succ_le_succ hd)
    have hl : ks.len ≤ 1000 := hs.1
    cases m with
    | row => exact c_ (fn := f__law_put) rfl rfl rfl (a_ (h1 := h) (x := .str "row") (by kernel_rfl) (i_f (by kernel_rfl) (i_t (by kernel_rfl) (r_ (v_tup2' (c := .str "row") rfl (v_tup (e := e__law_put_0) (v_lc (xs := ks.Ds) (it_ev (by kernel_rfl)) (lput_rows ih) (by rw [Ds_len]; omega))))))))
    | one => exact c_ (fn := f__law_put) rfl rfl rfl (a_ (h1 := h) (x := .str "one") (by kernel_rfl) (i_f (by kernel_rfl) (i_t (by kernel_rfl) (r_ (v_tup2' (c := .str "one") rfl (v_tup (e := e__law_put_0) (v_lc (xs := ks.Ds) (it_ev (by kernel_rfl)) (lput_rows ih) (by rw [Ds_len]; omega))))))))
    | room => exact c_ (fn := f__law_put) rfl rfl rfl (a_ (h1 := h) (x := .str "room") (by kernel_rfl) (i_f (by kernel_rfl) (i_f (by kernel_rfl) (i_t (by kernel_rfl) (r_ (v_tup2 (v_tup (e := e__law_put_1) (v_lc (xs := ks.Fs) (it_ev (by kernel_rfl)) (lput_room ih) (by rw [Fs_len]; omega)))))))))
    | code v => exact c_ (fn := f__law_put) rfl rfl rfl (a_ (h1 := h) (x := .str "code") (by kernel_rfl) (i_f (by kernel_rfl) (i_f (by kernel_rfl) (i_f (by kernel_rfl) (i_t (by kernel_rfl) (a_ (h1 := h) (x := .int ((u + v : Nat) : Int)) (by kernel_rfl) (r_ (v_tup3 (y := .int v) (by kernel_rfl) (v_tup (e := e__law_put_2) (v_lc (xs := enumD 0 ks.Ds) (it_ev (by kernel_rfl)) (lput_code 0 ih) (by rw [enumD_len, Ds_len]; omega)))))))))))
    | not v => exact c_ (fn := f__law_put) rfl rfl rfl (a_ (h1 := h) (x := .str "not") (by kernel_rfl) (i_f (by kernel_rfl) (i_f (by kernel_rfl) (i_f (by kernel_rfl) (i_f (by kernel_rfl) (i_t (by kernel_rfl) (r_ (v_tup3 (y := .int v) (by kernel_rfl) (v_tup (e := e__law_put_3) (v_lc (xs := ks.Ds) (it_ev (by kernel_rfl)) (lput_not (mo := ((u + v : Nat) : Int)) (by kernel_rfl) (fun x => by kernel_rfl) ih) (by rw [Ds_len]; omega)))))))))))
theorem lputs_ok (ss : List Kd) (h : Hh) : ∀ (ks : Ks) (u n : Nat), ks.sm → ks.dep ≤ n → A2 (fun x y => C (n + 1) 10 [x, .int u, .tup (ss.map Kd.to)] h = .ok y h) ks.Ds (ks.put ss u).Ds
  | .nil, _, _, _, _ => .nil
  | .cons b k r, u, n, hs, hd => .cons (lput_ok ss h k u n hs.1 (Nat.le_trans (Nat.le_max_left _ _) hd)) (lputs_ok ss h r u n hs.2 (Nat.le_trans (Nat.le_max_right _ _) hd))
end
/-! ### _law_same of a thing and itself -/
mutual
def pd : D → Bool
  | .bl _ => true
  | .int _ => true
  | .str _ => true
  | .tup xs => pds xs && decide (xs.length ≤ 1000)
  | .lst xs => pds xs && decide (xs.length ≤ 1000)
  | _ => false
def pds : List D → Bool
  | [] => true
  | x :: xs => pd x && pds xs
end
theorem pds_get : ∀ {xs : List D} {k : Nat} {x : D}, pds xs = true → xs[k]? = some x → pd x = true
  | [], _, _, _, e => by simp at e
  | y :: ys, 0, x, h, e => by
    simp at e; subst e
    simp only [pds, Bool.and_eq_true] at h; exact h.1
  | y :: ys, k + 1, x, h, e => by
    simp only [pds, Bool.and_eq_true] at h
    exact pds_get (k := k) h.2 (by simpa using e)
theorem deps_get : ∀ {xs : List D} {k : Nat} {x : D}, xs[k]? = some x → x.dep ≤ D.deps xs
  | [], _, _, e => by simp at e
  | y :: ys, 0, x, e => by simp at e; subst e; exact Nat.le_max_left _ _
  | y :: ys, k + 1, x, e => Nat.le_trans (deps_get (k := k) (xs := ys) (by simpa using e)) (Nat.le_max_right _ _)
theorem lcLoop_none {turn : D → Hh → R (Option D)} {good : Hh → Bool} {h : Hh} (hg : good h = true) : ∀ {xs : List D} (acc : List D), (∀ x ∈ xs, turn x h = .ok none h) → lcLoop good turn xs acc h = .ok (.lst acc) h
  | [], acc, _ => by unfold lcLoop; rw [if_pos hg]
  | x :: xs, acc, hh => by
    unfold lcLoop
    rw [if_pos hg, hh x List.mem_cons_self]
    exact lcLoop_none hg acc fun y hy => hh y (List.mem_cons_of_mem _ hy)
theorem vand2 {m : Nat} {h : Hh} {ρ : PV.Env} {a b : E} {q : R D} (ha : (evE (F m) [] a).v ρ h = .ok (.bl true) h) (hb : (evE (F m) [] b).v ρ h = q) : (evE (F m) [] (.and a (.cons b .nil))).v ρ h = q := by
  show ((evE (F m) [] a).v ρ h).bind _ = _
  rw [ha]; exact hb
theorem veq {m : Nat} {h : Hh} {ρ : PV.Env} {a b : E} {x y : D} {t : Bool} (ha : (evE (F m) [] a).v ρ h = .ok x h) (hb : (evE (F m) [] b).v ρ h = .ok y h) (ht : opCmp .eq h x y = some t) : (evE (F m) [] (.cmp .eq a b)).v ρ h = .ok (.bl t) h := by
  show ((evE (F m) [] a).v ρ h).bind _ = _
  rw [ha, R.bind_ok, hb, R.bind_ok, ht]; rfl
theorem vcall2 {m f : Nat} {h : Hh} {ρ : PV.Env} {e1 e2 : E} {x y : D} {q : R D} (h1 : (evE (F m) [] e1).v ρ h = .ok x h) (h2 : (evE (F m) [] e2).v ρ h = .ok y h) (hq : C m f [x, y] h = q) :
    (evE (F m) [] (.call f (.cons e1 (.cons e2 .nil)))).v ρ h = q := by
  show (((evE (F m) [] e1).v ρ h).bind fun x h1 => (((evE (F m) [] e2).v ρ h1).bind fun x h1 => R.bind (.ok [] h1) fun xs h2 => .ok (x :: xs) h2).bind fun xs h2 => .ok (x :: xs) h2).bind _ = _
  rw [h1, R.bind_ok, h2]; exact hq
theorem tnot2 {m f : Nat} {h : Hh} {ρ : PV.Env} {e1 e2 : E} {x y : D} {b : Bool} (h1 : (evE (F m) [] e1).v ρ h = .ok x h) (h2 : (evE (F m) [] e2).v ρ h = .ok y h) (hq : C m f [x, y] h = .ok (.bl b) h) :
    (evE (F m) [] (.not (.call f (.cons e1 (.cons e2 .nil))))).t ρ h = .ok (!b) h := by
  show R.bind (R.bind ((evE (F m) [] (.call f (.cons e1 (.cons e2 .nil)))).v ρ h) fun x h1 => R.opt (x.tru h1) h1) _ = _
  rw [vcall2 h1 h2 hq]; rfl
theorem same_items {m : Nat} {h : Hh} {xs : List D} {d : D} (hx : xs.length ≤ 1000) (hl : (evE (F m) [] (.bf .len (.cons (.var 1) .nil))).v [some d, some d, none] h = .ok (.int (xs.length : Int)) h)
    (hi : ∀ (k : Nat), (evE (F m) [] (.idx (.var 0) (.var 2))).v [some d, some d, some (.int (k : Int))] h = R.opt (L2.atI xs (k : Int)) h) (hi2 : ∀ (k : Nat), (evE (F m) [] (.idx (.var 1) (.var 2))).v [some d, some d, some (.int (k : Int))] h = R.opt (L2.atI xs (k : Int)) h)
    (ih : ∀ x ∈ xs, C m 9 [x, x] h = .ok (.bl true) h) : (evE (F m) [] e__law_same_0).v [some d, some d, none] h = .ok (.lst []) h := by
  show (evI (F m) [] (.rng (.bf .len (.cons (.var 1) .nil))) [some d, some d, none] h).bind _ = _
  rw [it_rng hx hl, R.bind_ok, if_pos (sz_of (by rw [rngD_len]; omega))]
  refine lcLoop_none rfl [] fun x hx2 => ?_
  obtain ⟨k, hk⟩ := List.mem_iff_getElem?.mp hx2
  rw [rngD_get] at hk
  split at hk
  · rename_i hk2
    cases hk
    have e1 := hi k
    have e2 := hi2 k
    rw [L2.atI_nat (List.getElem?_eq_getElem hk2)] at e1 e2
    show ((evE (F m) [] c__law_same_0).t [some d, some d, some (.int (k : Int))] h).bind _ = _
    have ht : (evE (F m) [] c__law_same_0).t [some d, some d, some (.int (k : Int))] h = .ok false h := tnot2 e1 e2 (ih _ (List.getElem_mem hk2))
    rw [ht]; rfl
  · cases hk
theorem eq_int (h : Hh) (n : Int) : opCmp .eq h (.int n) (.int n) = some true := by
  show (if (D.res h (.int n)).shp && (D.res h (.int n)).shp then some (n == n) else none) = _
  rw [beq_self_eq_true]; rfl
theorem same_ok (h : Hh) : ∀ (n : Nat) (d : D), pd d = true → d.dep ≤ n → C (n + 1) 9 [d, d] h = .ok (.bl true) h
  | n, .bl b, _, _ => by cases b <;> kernel_rfl
  | n, .int i, _, _ => by
    have e : C (n + 1) 9 [.int i, .int i] h = .ok (.bl (i == i)) h := by kernel_rfl
    rw [e, beq_self_eq_true]
  | n, .str x, _, _ => by
    have e : C (n + 1) 9 [.str x, .str x] h = .ok (.bl (decide (x = x))) h := by kernel_rfl
    rw [e, decide_eq_true rfl]
  | n + 1, .tup xs, hp, hd => by
    simp only [pd, Bool.and_eq_true, decide_eq_true_eq] at hp
    refine c_ (fn := f__law_same) rfl rfl rfl (i_f (by kernel_rfl) (i_f (by kernel_rfl) (i_f (by kernel_rfl) (i_f (by kernel_rfl) (i_f (by kernel_rfl) (r_ (vand2 (veq (x := .int xs.length) (y := .int xs.length) (by kernel_rfl) (by kernel_rfl) (eq_int h _)) (veq (x := .lst []) (y := .lst []) (same_items hp.2 (by kernel_rfl) (fun k => by kernel_rfl) (fun k => by kernel_rfl) fun x hx => ?_) (by kernel_rfl) (by kernel_rfl)))))))))
    obtain ⟨k, hk⟩ := List.mem_iff_getElem?.mp hx
    exact same_ok h n x (pds_get hp.1 hk) (Nat.le_trans (deps_get hk) (Nat.le_of_succ_le_succ hd))
  | n + 1, .lst xs, hp, hd => by
    simp only [pd, Bool.and_eq_true, decide_eq_true_eq] at hp
    refine c_ (fn := f__law_same) rfl rfl rfl (i_f (by kernel_rfl) (i_f (by kernel_rfl) (i_f (by kernel_rfl) (i_f (by kernel_rfl) (i_f (by kernel_rfl) (r_ (vand2 (veq (x := .int xs.length) (y := .int xs.length) (by kernel_rfl) (by kernel_rfl) (eq_int h _)) (veq (x := .lst []) (y := .lst []) (same_items hp.2 (by kernel_rfl) (fun k => by kernel_rfl) (fun k => by kernel_rfl) fun x hx => ?_) (by kernel_rfl) (by kernel_rfl)))))))))
    obtain ⟨k, hk⟩ := List.mem_iff_getElem?.mp hx
    exact same_ok h n x (pds_get hp.1 hk) (Nat.le_trans (deps_get hk) (Nat.le_of_succ_le_succ hd))
end K44
end

section
set_option maxRecDepth 100000
namespace K44
open PySem PV
/-! ### the flow of numbers -/
structure Fl where
  cells : List Int
  a : Int
  b : Int
  c : Int
def Fl.hp (s : Fl) : Hh := [.lst (s.cells.map D.int), .lst [.ref 0, .int s.a, .int s.b, .int s.c]]
/-- so many draws may still come -/
def Fl.I (m : Nat) (s : Fl) : Prop := 0 ≤ s.a ∧ 0 ≤ s.c ∧ s.c + m ≤ 1000000000
theorem h64 : (2 : Int) ^ 64 = 18446744073709551616 := by decide +kernel
theorem mul_l {i j : Int} (h1 : -18446744073709551616 < i) (h2 : i < 18446744073709551616) : mulOk i j = true := by
  unfold mulOk
  rw [h64]
  simp only [Bool.or_eq_true, decide_eq_true_eq]
  exact .inl (.inr ⟨h1, h2⟩)
theorem mul_r {i j : Int} (h1 : -18446744073709551616 < j) (h2 : j < 18446744073709551616) : mulOk i j = true := by
  unfold mulOk
  rw [h64]
  simp only [Bool.or_eq_true, decide_eq_true_eq]
  exact .inr ⟨h1, h2⟩
section
variable {m : Nat} {h : Hh} {ρ : PV.Env} {e1 e2 : E} {i j : Int} {x y : D} {rest : Ss} {r : RS}
theorem v_bin {o : BOp} {z : D} (h1 : (evE (F m) [] e1).v ρ h = .ok x h) (h2 : (evE (F m) [] e2).v ρ h = .ok y h) (hz : opBin o h x y = some z) : (evE (F m) [] (.bin o e1 e2)).v ρ h = .ok z h := by
  show ((evE (F m) [] e1).v ρ h).bind _ = _
  rw [h1, R.bind_ok, h2, R.bind_ok, hz]; rfl
theorem v_add (h1 : (evE (F m) [] e1).v ρ h = .ok (.int i) h) (h2 : (evE (F m) [] e2).v ρ h = .ok (.int j) h) : (evE (F m) [] (.bin .add e1 e2)).v ρ h = .ok (.int (i + j)) h := v_bin h1 h2 rfl
theorem v_sub (h1 : (evE (F m) [] e1).v ρ h = .ok (.int i) h) (h2 : (evE (F m) [] e2).v ρ h = .ok (.int j) h) : (evE (F m) [] (.bin .sub e1 e2)).v ρ h = .ok (.int (i - j)) h := v_bin h1 h2 rfl
theorem v_mul (h1 : (evE (F m) [] e1).v ρ h = .ok (.int i) h) (h2 : (evE (F m) [] e2).v ρ h = .ok (.int j) h) (hm : mulOk i j = true) : (evE (F m) [] (.bin .mul e1 e2)).v ρ h = .ok (.int (i * j)) h :=
  v_bin h1 h2 (show (if mulOk i j then some (D.int (i * j)) else none) = _ from if_pos hm)
theorem v_div (h1 : (evE (F m) [] e1).v ρ h = .ok (.int i) h) (h2 : (evE (F m) [] e2).v ρ h = .ok (.int j) h) (hj : 0 < j ∧ j < 1073741824) : (evE (F m) [] (.bin .fdiv e1 e2)).v ρ h = .ok (.int (i / j)) h :=
  v_bin h1 h2 (show (if 0 < j ∧ j < 1073741824 then some (D.int (i / j)) else none) = _ from if_pos hj)
theorem v_mod (h1 : (evE (F m) [] e1).v ρ h = .ok (.int i) h) (h2 : (evE (F m) [] e2).v ρ h = .ok (.int j) h) (hj : 0 < j) : (evE (F m) [] (.bin .mod e1 e2)).v ρ h = .ok (.int (i % j)) h :=
  v_bin h1 h2 (show (if 0 < j then some (D.int (i % j)) else none) = _ from if_pos hj)
theorem v_int (h1 : (evE (F m) [] e1).v ρ h = .ok (.int i) h) : (evE (F m) [] (.bf .int (.cons e1 .nil))).v ρ h = .ok (.int i) h := by
  show (((evE (F m) [] e1).v ρ h).bind fun x h1 => R.bind (.ok [] h1) fun xs h2 => .ok (x :: xs) h2).bind _ = _
  rw [h1]; rfl
theorem s_sto {o ie e : E} {h4 : Hh} {x y z : D} (he : (evE (F m) [] e).v ρ h = .ok x h) (ho : (evE (F m) [] o).v ρ h = .ok y h) (hi : (evE (F m) [] ie).v ρ h = .ok z h) (hs : stoOp y z x h = some h4) (hr : evSs (F m) [] rest ρ h4 = r) : evSs (F m) [] (.cons (.sto o ie e) rest) ρ h = r := by
  show (((evE (F m) [] e).v ρ h).then_ _).then_ _ = _
  rw [he, R.then_ok, ho, R.then_ok, hi, R.then_ok, hs]; exact hr
end
/-- what follows the taking of a cell -/
theorem draw_tail {n : Nat} {s : Fl} {many : Int} {m : Nat} {rc : Option D} (hs : s.I (m + 1)) (h0 : 0 < many) (h1 : many < 1073741824) :
    ∃ (v : Int) (s' : Fl), evSs (F n) [] (sdrop 1 b__law_draw) [some (.ref 1), some (.int many), rc, none, none, none, none] s.hp = .ret (.int v) s'.hp ∧ 0 ≤ v ∧ v < many ∧ s'.I m := by
  obtain ⟨cells, a, b, c⟩ := s
  obtain ⟨ha, hc, hm⟩ := hs
  simp only at ha hc hm
  have hcond : (evE (F n) [] (.cmp .gt (.idx (.var 0) (.con (.int 1))) (.con (.int 0)))).t [some (.ref 1), some (.int many), rc, none, none, none, none] (Fl.hp ⟨cells, a, b, c⟩) = .ok (decide (0 < a)) (Fl.hp ⟨cells, a, b, c⟩) := by kernel_rfl
  by_cases hp : 0 < a
  · rw [decide_eq_true hp] at hcond
    refine ⟨a - a / many * many, ⟨cells, a / many, b, c⟩, i_t hcond (a_ (v_div (i := a) (j := many) (by kernel_rfl) rfl ⟨h0, h1⟩) (a_ (v_sub (i := a) (j := a / many * many) (by kernel_rfl) (v_mul (i := a / many) (j := many) rfl rfl (mul_r (by omega) (by omega)))) (s_sto (x := .int (a / many)) (y := .ref 1) (z := .int 1) rfl rfl rfl (by kernel_rfl) (r_ rfl)))), ?_, ?_, Int.ediv_nonneg ha (by omega), hc, by show c + m ≤ _; omega⟩
    · have := Int.ediv_mul_add_emod a many
      have := Int.emod_nonneg a (show many ≠ 0 by omega)
      omega
    · have := Int.ediv_mul_add_emod a many
      have := Int.emod_lt_of_pos a h0
      omega
  · rw [decide_eq_false hp] at hcond
    let M : Int := 2305843009213693951
    have hM : (0 : Int) < 2305843009213693951 := by decide
    let t : Int := c + 1
    let x1 : Int := (b + 7919 * t * t + 15485863 * t + 3) % 2305843009213693951
    let x2 : Int := (x1 * x1 + 104729 * t + 5) % 2305843009213693951 / 1021
    let x3 : Int := (x2 * x2 + 611953 * t) % 2305843009213693951 / 4093
    have ht : 0 ≤ t ∧ t ≤ 1000000001 := ⟨by show 0 ≤ c + 1; omega, by show c + 1 ≤ _; omega⟩
    have q1 : 0 ≤ x1 ∧ x1 < 2305843009213693951 := ⟨Int.emod_nonneg _ (by decide), Int.emod_lt_of_pos _ hM⟩
    have q2 : 0 ≤ x2 ∧ x2 < 2305843009213693951 := by
      have z1 := Int.emod_nonneg (x1 * x1 + 104729 * t + 5) (show (2305843009213693951 : Int) ≠ 0 by decide)
      have z2 := Int.emod_lt_of_pos (x1 * x1 + 104729 * t + 5) hM
      exact ⟨Int.ediv_nonneg z1 (by decide), by show (x1 * x1 + 104729 * t + 5) % 2305843009213693951 / 1021 < _; omega⟩
    refine ⟨x3 % many, ⟨cells, a, b, t⟩, i_f hcond (s_sto (h4 := Fl.hp ⟨cells, a, b, t⟩) (x := .int t) (y := .ref 1) (z := .int 3) (v_add (i := c) (j := 1) (by kernel_rfl) rfl) rfl rfl (by kernel_rfl)
      (a_ (h1 := Fl.hp ⟨cells, a, b, t⟩) (x := .int t) (by kernel_rfl)
      (a_ (h1 := Fl.hp ⟨cells, a, b, t⟩) (x := .int x1) (v_mod (v_int (v_add (v_add (v_add (i := b) (by kernel_rfl) (v_mul (v_mul (i := 7919) (j := t) rfl rfl (mul_l (by decide) (by decide))) (j := t) rfl (mul_r (by omega) (by omega)))) (v_mul (i := 15485863) (j := t) rfl rfl (mul_l (by decide) (by decide)))) (j := 3) rfl)) (j := 2305843009213693951) rfl hM)
      (a_ (h1 := Fl.hp ⟨cells, a, b, t⟩) (x := .int x2) (v_div (v_mod (v_int (v_add (v_add (v_mul (i := x1) (j := x1) rfl rfl (mul_l (by omega) (by omega))) (v_mul (i := 104729) (j := t) rfl rfl (mul_l (by decide) (by decide)))) (j := 5) rfl)) (j := 2305843009213693951) rfl hM) (j := 1021) rfl (by decide))
      (a_ (h1 := Fl.hp ⟨cells, a, b, t⟩) (x := .int x3) (v_div (v_mod (v_int (v_add (v_mul (i := x2) (j := x2) rfl rfl (mul_l (by omega) (by omega))) (v_mul (i := 611953) (j := t) rfl rfl (mul_l (by decide) (by decide))))) (j := 2305843009213693951) rfl hM) (j := 4093) rfl (by decide))
      (r_ (v_mod (v_int (i := x3) rfl) (j := many) rfl h0))))))), Int.emod_nonneg _ (by omega), Int.emod_lt_of_pos _ h0, ha, ht.1, by show c + 1 + m ≤ _; omega⟩
theorem lays_int : ∀ ns : List Int, D.lays (ns.map D.int) = true
  | [] => rfl
  | _ :: ns => by show (true && D.lays (ns.map D.int)) = true; rw [lays_int ns]; rfl
theorem deps_int : ∀ ns : List Int, D.deps (ns.map D.int) = 0
  | [] => rfl
  | _ :: ns => by show max 0 (D.deps (ns.map D.int)) = 0; rw [deps_int ns]; rfl
theorem shp_int (ns : List Int) : (D.lst (ns.map D.int)).shp = true := by
  show (D.lays (ns.map D.int) && decide (D.deps (ns.map D.int) + 1 ≤ 64)) = true
  rw [lays_int, deps_int]; rfl
theorem tand2 {m : Nat} {h : Hh} {ρ : PV.Env} {a b : E} {p q : Bool} (ha : (evE (F m) [] a).t ρ h = .ok p h) (hb : p = true → (evE (F m) [] b).t ρ h = .ok q h) : (evE (F m) [] (.and a (.cons b .nil))).t ρ h = .ok (p && q) h := by
  show ((evE (F m) [] a).t ρ h).bind _ = _
  rw [ha]
  cases p with
  | false => rfl
  | true => exact hb rfl
theorem tcmp {m : Nat} {h : Hh} {ρ : PV.Env} {o : COp} {a b : E} {x y : D} {t : Bool} (ha : (evE (F m) [] a).v ρ h = .ok x h) (hb : (evE (F m) [] b).v ρ h = .ok y h) (ht : opCmp o h x y = some t) : (evE (F m) [] (.cmp o a b)).t ρ h = .ok t h := by
  show R.bind (((evE (F m) [] a).v ρ h).bind _) _ = _
  rw [ha, R.bind_ok, hb, R.bind_ok, ht]; rfl
theorem eq_ints (h : Hh) (i j : Int) : opCmp .eq h (.int i) (.int j) = some (decide (i = j)) := by
  show (if (D.res h (.int i)).shp && (D.res h (.int j)).shp then some (i == j) else none) = _
  show some (i == j) = _
  by_cases e : i = j
  · subst e; simp
  · simp [e]
theorem s_if {m : Nat} {h : Hh} {ρ : PV.Env} {c : E} {a rest : Ss} {r : RS} (hc : (evE (F m) [] c).t ρ h = .ok true h) {ρ' : PV.Env} {h' : Hh} (ha : evSs (F m) [] a ρ h = .nxt ρ' h') (hr : evSs (F m) [] rest ρ' h' = r) : evSs (F m) [] (.cons (.ite c a .nil) rest) ρ h = r := by
  show (((evE (F m) [] c).t ρ h).then_ fun t h1 => if t then evSs (F m) [] a ρ h1 else evSs (F m) [] .nil ρ h1).then_ _ = _
  rw [hc]
  show (evSs (F m) [] a ρ h).then_ _ = _
  rw [ha]; exact hr
theorem mx (j : Int) : 0 ≤ (if j > 0 then j else 0) := by split <;> omega
theorem v_int' {m : Nat} {h h' : Hh} {ρ : PV.Env} {e1 : E} {i : Int} (h1 : (evE (F m) [] e1).v ρ h = .ok (.int i) h') : (evE (F m) [] (.bf .int (.cons e1 .nil))).v ρ h = .ok (.int i) h' := by
  show (((evE (F m) [] e1).v ρ h).bind fun x h1 => R.bind (.ok [] h1) fun xs h2 => .ok (x :: xs) h2).bind _ = _
  rw [h1]; rfl
theorem pop_ok {m : Nat} {h : Hh} {ρ : PV.Env} {e : E} {r : Nat} {x : D} {xs : List D} (he : (evE (F m) [] e).v ρ h = .ok (.ref r) h) (hx : h[r]? = some (.lst (x :: xs))) : (evE (F m) [] (.mth .popAt e (.cons (.con (.int 0)) .nil))).v ρ h = .ok x (h.set r (.lst xs)) := by
  show ((evE (F m) [] e).v ρ h).bind _ = _
  rw [he, R.bind_ok]
  have hl : D.isL h (.ref r) = true := by simp only [D.isL, hx]
  rw [if_pos hl]
  show mthRef .popAt r [.int 0] h = _
  have hp : mtL .popAt (x :: xs) [.int 0] = some (x, xs) := by
    show (L2.ixN (x :: xs).length 0).bind _ = _
    have : L2.ixN (x :: xs).length 0 = some 0 := by simp [L2.ixN]
    rw [this]; rfl
  simp only [mthRef, hx, hp]
/-- a number below many -/
theorem draw_ok (n : Nat) {s : Fl} {many : Int} {m : Nat} (hs : s.I (m + 1)) (h0 : 0 < many) (h1 : many < 1073741824) :
    ∃ (v : Int) (s' : Fl), C (n + 1) 8 [.ref 1, .int many] s.hp = .ok (.int v) s'.hp ∧ 0 ≤ v ∧ v < many ∧ s'.I m := by
  obtain ⟨cells, a, b, c⟩ := s
  have hc1 : (evE (F n) [] (.cmp .eq (.idx (.var 0) (.con (.int 1))) (.con (.int 0)))).t [some (.ref 1), some (.int many), none, none, none, none, none] (Fl.hp ⟨cells, a, b, c⟩) = .ok (decide (a = 0)) (Fl.hp ⟨cells, a, b, c⟩) := tcmp (x := .int a) (y := .int 0) (by kernel_rfl) rfl (eq_ints _ _ _)
  have hc2 : (evE (F n) [] (.cmp .ne (.idx (.var 0) (.con (.int 0))) (.lst (.nil)))).t [some (.ref 1), some (.int many), none, none, none, none, none] (Fl.hp ⟨cells, a, b, c⟩) = .ok (!cells.isEmpty) (Fl.hp ⟨cells, a, b, c⟩) := by
    refine tcmp (x := .ref 0) (y := .lst []) (by kernel_rfl) (by kernel_rfl) ?_
    show (if (D.lst (cells.map D.int)).shp && (D.lst []).shp then some (D.eqvs (cells.map D.int) []) else none).map (!·) = _
    rw [shp_int]
    cases cells <;> rfl
  have hcc := tand2 hc1 fun _ => hc2
  have fin : ∀ {s2 : Fl} {rc : Option D}, s2.I (m + 1) → evSs (F n) [] b__law_draw [some (.ref 1), some (.int many), none, none, none, none, none] (Fl.hp ⟨cells, a, b, c⟩) = evSs (F n) [] (sdrop 1 b__law_draw) [some (.ref 1), some (.int many), rc, none, none, none, none] s2.hp →
      ∃ (v : Int) (s' : Fl), C (n + 1) 8 [.ref 1, .int many] (Fl.hp ⟨cells, a, b, c⟩) = .ok (.int v) s'.hp ∧ 0 ≤ v ∧ v < many ∧ s'.I m := by
    intro s2 rc hs2 e
    obtain ⟨v, s', e1, h2, h3, h4⟩ := draw_tail (n := n) (rc := rc) hs2 h0 h1
    exact ⟨v, s', c_ (fn := f__law_draw) rfl rfl rfl (e.trans e1), h2, h3, h4⟩
  cases hb : (decide (a = 0) && !cells.isEmpty) with
  | false => rw [hb] at hcc; exact fin hs (i_f hcc rfl)
  | true =>
    rw [hb] at hcc
    cases cells with
    | nil => simp at hb
    | cons i cells =>
      let a1 : Int := if (if i < 0 then -i else i) - 10 ^ 18 > 0 then (if i < 0 then -i else i) - 10 ^ 18 else 0
      let b1 : Int := (b * 1181783497276652981 + i) % 2305843009213693951
      have hp : (10 : Int) ^ (18 : Int).toNat = 10 ^ 18 := rfl
      refine fin (s2 := ⟨cells, a1, b1, c⟩) (rc := some (.int i)) ⟨?_, hs.2⟩ (s_if hcc (ρ' := [some (.ref 1), some (.int many), some (.int i), none, none, none, none]) (h' := Fl.hp ⟨cells, a1, b1, c⟩) (a_ (h1 := Fl.hp ⟨cells, a, b, c⟩) (x := .int i) (v_int' (pop_ok (h := Fl.hp ⟨i :: cells, a, b, c⟩) (r := 0) (x := .int i) (xs := cells.map D.int) rfl rfl))
        (s_sto (h4 := Fl.hp ⟨cells, a1, b, c⟩) (x := .int a1) (y := .ref 1) (z := .int 1) ?_ rfl rfl (by kernel_rfl)
        (s_sto (h4 := Fl.hp ⟨cells, a1, b1, c⟩) (x := .int b1) (y := .ref 1) (z := .int 2) (v_mod (v_int (v_add (v_mul (i := b) (j := 1181783497276652981) (by kernel_rfl) rfl (mul_r (by decide) (by decide))) (j := i) rfl)) (j := 2305843009213693951) rfl (by decide)) rfl rfl (by kernel_rfl) rfl))) rfl)
      · exact mx _
      · kernel_rfl
end K44
end

section
set_option maxRecDepth 100000
namespace K44
open PySem PV
mutual
/-- short rows, small numbers -/
def Kd.o3 : Kd → Prop
  | .int => True
  | .free n => n ≤ 1000
  | .var n => n ≤ 1000
  | .un _ k => k.o3
  | .mn m ks => ks.len ≤ 3 ∧ m.binds ≤ 1000 ∧ ks.o3
def Ks.o3 : Ks → Prop
  | .nil => True
  | .cons _ k r => k.o3 ∧ r.o3
end
def Kd.P : Bool → Kd → Prop
  | false => Kd.pS
  | true => Kd.pC
def Ks.P : Bool → Ks → Prop
  | false => Ks.pS
  | true => Ks.pC
def wd : Bool → Str
  | false => "row"
  | true => "room"
/-- what is drawn -/
structure GK (w : Bool) (d : Nat) (k : Kd) : Prop where
  o : k.o3
  p : k.P w
  d : k.dep ≤ d
structure GKs (w : Bool) (d : Nat) (k : Ks) : Prop where
  o : k.o3
  p : k.P w
  d : k.dep ≤ d
theorem GKs.nil {w : Bool} {d : Nat} : GKs w d .nil := ⟨trivial, by cases w <;> exact trivial, Nat.zero_le _⟩
theorem GKs.cons {w : Bool} {d : Nat} {b : Bool} {k : Kd} {r : Ks} (h : GK w d k) (t : GKs w d r) : GKs w d (.cons b k r) :=
  ⟨⟨h.o, t.o⟩, by cases w <;> exact ⟨h.p, t.p⟩, Nat.max_le.mpr ⟨h.d, t.d⟩⟩
theorem Fl.I.le {m m' : Nat} {s : Fl} (h : s.I m) (hm : m' ≤ m) : s.I m' := ⟨h.1, h.2.1, by have := h.2.2; omega⟩
section
variable {m : Nat} {h h1 h2 : Hh} {ρ : PV.Env} {x y : D} {xs ys : List D}
theorem veqc {a b : E} {t : Bool} (ha : (evE (F m) [] a).v ρ h = .ok x h1) (hb : (evE (F m) [] b).v ρ h1 = .ok y h1) (ht : opCmp .eq h1 x y = some t) : (evE (F m) [] (.cmp .eq a b)).v ρ h = .ok (.bl t) h1 := by
  show ((evE (F m) [] a).v ρ h).bind _ = _
  rw [ha, R.bind_ok, hb, R.bind_ok, ht]; rfl
theorem v_add' {e1 e2 : E} {i j : Int} (h1' : (evE (F m) [] e1).v ρ h = .ok (.int i) h) (h2' : (evE (F m) [] e2).v ρ h = .ok (.int j) h1) : (evE (F m) [] (.bin .add e1 e2)).v ρ h = .ok (.int (i + j)) h1 := by
  show ((evE (F m) [] e1).v ρ h).bind _ = _
  rw [h1', R.bind_ok, h2']; rfl
theorem turn1' {i : Nat} {e : E} (hb : (evE (F m) [] e).v (ρ.set i (some x)) h = .ok y h1) : lcTurn (.v i) (evE (F m) [] .miss) (evE (F m) [] e) ρ x h = .ok (some y) h1 := by
  show ((evE (F m) [] e).v (ρ.set i (some x)) h).bind _ = _
  rw [hb]; rfl
theorem v_lc' {t : Tg} {it : I} {e : E} (hi : evI (F m) [] it ρ h = .ok ⟨xs, none⟩ h1) (hz : xs.length ≤ 1000) (hl : lcLoop (fun _ => true) (lcTurn t (evE (F m) [] .miss) (evE (F m) [] e) ρ) xs [] h1 = .ok (.lst ys) h2) :
    (evE (F m) [] (.lc t it .miss e)).v ρ h = .ok (.lst ys) h2 := by
  show (evI (F m) [] it ρ h).bind _ = _
  rw [hi, R.bind_ok, if_pos (sz_of (show xs.length ≤ 16777216 by omega))]
  exact hl
theorem v_tup' {e : E} (hb : (evE (F m) [] e).v ρ h = .ok (.lst ys) h1) : (evE (F m) [] (.bf .tuple (.cons e .nil))).v ρ h = .ok (.tup ys) h1 := by
  show (((evE (F m) [] e).v ρ h).bind fun x h1 => R.bind (.ok [] h1) fun xs h2 => .ok (x :: xs) h2).bind _ = _
  rw [hb]; rfl
theorem it_rng' {e : E} {n : Nat} (hn : n ≤ 1000) (he : (evE (F m) [] e).v ρ h = .ok (.int n) h1) : evI (F m) [] (.rng e) ρ h = .ok ⟨rngD 0 n, none⟩ h1 := by
  rw [t1, he, R.bind_ok, t2 (rng_ok hn)]
theorem vcall2' {f : Nat} {e1 e2 : E} {q : R D} (h1 : (evE (F m) [] e1).v ρ h = .ok x h) (h2 : (evE (F m) [] e2).v ρ h = .ok y h) (hq : C m f [x, y] h = q) :
    (evE (F m) [] (.call f (.cons e1 (.cons e2 .nil)))).v ρ h = q := vcall2 h1 h2 hq
theorem vcall5 {f : Nat} {e1 e2 e3 e4 e5 : E} {a b c d e : D} {q : R D} (h1 : (evE (F m) [] e1).v ρ h = .ok a h) (h2 : (evE (F m) [] e2).v ρ h = .ok b h) (h3 : (evE (F m) [] e3).v ρ h = .ok c h) (h4 : (evE (F m) [] e4).v ρ h = .ok d h) (h5 : (evE (F m) [] e5).v ρ h = .ok e h) (hq : C m f [a, b, c, d, e] h = q) :
    (evE (F m) [] (.call f (.cons e1 (.cons e2 (.cons e3 (.cons e4 (.cons e5 .nil))))))).v ρ h = q := by
  show (((evE (F m) [] e1).v ρ h).bind fun x h1 => (((evE (F m) [] e2).v ρ h1).bind fun x h1 => (((evE (F m) [] e3).v ρ h1).bind fun x h1 => (((evE (F m) [] e4).v ρ h1).bind fun x h1 => (((evE (F m) [] e5).v ρ h1).bind fun x h1 => R.bind (.ok [] h1) fun xs h2 => .ok (x :: xs) h2).bind fun xs h2 => .ok (x :: xs) h2).bind fun xs h2 => .ok (x :: xs) h2).bind fun xs h2 => .ok (x :: xs) h2).bind fun xs h2 => .ok (x :: xs) h2).bind _ = _
  rw [h1, R.bind_ok, h2, R.bind_ok, h3, R.bind_ok, h4, R.bind_ok, h5]; exact hq
/-- (c, e): e may change the objects -/
theorem v_two {c e : E} (h0 : (evE (F m) [] c).v ρ h = .ok x h) (he : (evE (F m) [] e).v ρ h = .ok y h1) : (evE (F m) [] (.tup (.cons c (.cons e .nil)))).v ρ h = .ok (.tup [x, y]) h1 := by
  show (R.bind ((evE (F m) [] c).v ρ h) fun x h1 => R.bind ((R.bind ((evE (F m) [] e).v ρ h1) fun x h1 => R.bind (.ok [] h1) fun xs h2 => .ok (x :: xs) h2)) fun xs h2 => R.ok (x :: xs) h2).bind _ = _
  rw [h0, R.bind_ok, he]; rfl
theorem v_three {c e e' : E} {z : D} (h0 : (evE (F m) [] c).v ρ h = .ok x h) (he : (evE (F m) [] e).v ρ h = .ok y h) (he' : (evE (F m) [] e').v ρ h = .ok z h1) : (evE (F m) [] (.tup (.cons c (.cons e (.cons e' .nil))))).v ρ h = .ok (.tup [x, y, z]) h1 := by
  show (R.bind ((evE (F m) [] c).v ρ h) fun x h1 => R.bind (R.bind ((evE (F m) [] e).v ρ h1) fun x h1 => R.bind ((R.bind ((evE (F m) [] e').v ρ h1) fun x h1 => R.bind (.ok [] h1) fun xs h2 => .ok (x :: xs) h2)) fun xs h2 => R.ok (x :: xs) h2) fun xs h2 => R.ok (x :: xs) h2).bind _ = _
  rw [h0, R.bind_ok, he, R.bind_ok, he']; rfl
end
/-- kinds drawn one behind another -/
theorem lc_kinds {w : Bool} {d W : Nat} {turn : D → Hh → R (Option D)} (hyp : ∀ (x : D) (m : Nat) (s : Fl), s.I (m + W) → ∃ k s', turn x s.hp = .ok (some (Kd.to k)) (Fl.hp s') ∧ GK w d k ∧ s'.I m) :
    ∀ (xs acc : List D) (m : Nat) (s : Fl), s.I (m + xs.length * W) → ∃ ks s', lcLoop (fun _ => true) turn xs acc s.hp = .ok (.lst (acc ++ Ks.Ds ks)) (Fl.hp s') ∧ ks.len = xs.length ∧ GKs w d ks ∧ s'.I m
  | [], acc, m, s, hs => ⟨.nil, s, by unfold lcLoop; rw [if_pos rfl]; simp [Ks.Ds], rfl, .nil, by simpa using hs⟩
  | x :: xs, acc, m, s, hs => by
    have e0 : (x :: xs).length * W = xs.length * W + W := by rw [List.length_cons, Nat.add_mul, Nat.one_mul]
    rw [e0, ← Nat.add_assoc] at hs
    obtain ⟨k, s1, h1, h2, h3⟩ := hyp x (m + xs.length * W) s hs
    obtain ⟨ks, s2, e1, e2, e3, e4⟩ := lc_kinds hyp xs (acc ++ [k.to]) m s1 h3
    refine ⟨.cons false k ks, s2, ?_, by show ks.len + 1 = _; rw [e2]; rfl, .cons h2 e3, e4⟩
    unfold lcLoop
    rw [if_pos rfl, h1]
    dsimp only
    rw [e1]
    simp [Ks.Ds]
/-- .. their flags -/
theorem lc_flags {w : Bool} {d : Nat} {turn : D → Hh → R (Option D)} (hyp : ∀ (x : D) (m : Nat) (s : Fl), s.I (m + 1) → ∃ (b : Bool) (s' : Fl), turn x s.hp = .ok (some (.tup [x, .bl b])) s'.hp ∧ s'.I m) :
    ∀ (ks : Ks) (acc : List D) (m : Nat) (s : Fl), GKs w d ks → s.I (m + ks.len) → ∃ ks' s', lcLoop (fun _ => true) turn ks.Ds acc s.hp = .ok (.lst (acc ++ Ks.Fs ks')) (Fl.hp s') ∧ ks'.len = ks.len ∧ GKs w d ks' ∧ s'.I m
  | .nil, acc, m, s, hg, hs => ⟨.nil, s, by show lcLoop _ _ [] _ _ = _; unfold lcLoop; rw [if_pos rfl]; simp [Ks.Fs], rfl, .nil, hs⟩
  | .cons b k r, acc, m, s, hg, hs => by
    have hk : GK w d k := ⟨hg.o.1, by cases w <;> exact hg.p.1, Nat.le_trans (Nat.le_max_left _ _) hg.d⟩
    have hr : GKs w d r := ⟨hg.o.2, by cases w <;> exact hg.p.2, Nat.le_trans (Nat.le_max_right _ _) hg.d⟩
    have hs' : s.I (m + r.len + 1) := hs
    obtain ⟨b', s1, h1, h3⟩ := hyp k.to (m + r.len) s hs'
    obtain ⟨ks, s2, e1, e2, e3, e4⟩ := lc_flags hyp r (acc ++ [.tup [k.to, .bl b']]) m s1 hr h3
    refine ⟨.cons b' k ks, s2, ?_, by show ks.len + 1 = r.len + 1; rw [e2], .cons hk e3, e4⟩
    show lcLoop _ _ (k.to :: r.Ds) _ _ = _
    unfold lcLoop
    rw [if_pos rfl, h1]
    dsimp only
    rw [e1]
    simp [Ks.Fs]
def W (d : Nat) : Nat := 8 * 4 ^ d
theorem W_pos (d : Nat) : 8 ≤ W d := by
  have : 0 < 4 ^ d := Nat.pow_pos (by decide)
  unfold W; omega
theorem W_succ (d : Nat) : W (d + 1) = 4 * W d := by unfold W; rw [Nat.pow_succ]; omega
/-- a number of a row, small -/
theorem small_nat {v : Int} {n : Nat} (h0 : 0 ≤ v) (h1 : v < n) : ∃ u : Nat, v = u ∧ u < n := ⟨v.toNat, by omega, by omega⟩
def env (w : Bool) (u d : Nat) : PV.Env := [some (.ref 1), some (.str (wd w)), some (.int 3), some (.int u), some (.int d), none, none, none, none, none, none]
theorem dec_one (d : Nat) : ((d + 1 : Nat) : Int) - 1 = (d : Int) := by omega
theorem kind_ok (w : Bool) : ∀ (d n u m : Nat) (s : Fl), u + 4 * d ≤ 900 → d ≤ n → s.I (m + W d) → ∃ (k : Kd) (s' : Fl), C (n + 2) 13 [.ref 1, .str (wd w), .int 3, .int u, .int d] s.hp = .ok k.to s'.hp ∧ GK w d k ∧ s'.I m := by
  intro d
  induction d with
  | zero =>
    intro n u m s hu hn hs
    have hs1 : s.I (m + 1 + 1) := hs.le (by have := W_pos 0; omega)
    obtain ⟨v, s1, hd, h0, h1, hs2⟩ := draw_ok n hs1 (many := 3) (by decide) (by decide)
    have way : (evE (F (n + 1)) [] (.ite (.cmp .gt (.var 4) (.con (.int 0))) (.call 8 (.cons (.var 0) (.cons (.con (.int 9)) .nil))) (.call 8 (.cons (.var 0) (.cons (.con (.int 3)) .nil))))).v (env w u 0) s.hp = .ok (.int v) s1.hp := vi_f (by cases w <;> kernel_rfl) (vcall2 rfl rfl hd)
    have hv : v = 0 ∨ v = 1 ∨ v = 2 := by omega
    rcases hv with rfl | rfl | rfl
    · exact ⟨.int, s1, c_ (fn := f__law_kind) rfl rfl rfl (a_ way (i_t (by cases w <;> kernel_rfl) (r_ (by kernel_rfl)))), ⟨trivial, by cases w <;> exact trivial, Nat.zero_le _⟩, hs2.le (by omega)⟩
    · obtain ⟨v, s3, hd3, h0, h1, hs3⟩ := draw_ok n hs2 (many := 3) (by decide) (by decide)
      obtain ⟨v, rfl, hv⟩ := small_nat h0 (n := 3) h1
      exact ⟨.free v, s3, c_ (fn := f__law_kind) rfl rfl rfl (a_ way (i_f (by cases w <;> kernel_rfl) (i_t (by cases w <;> kernel_rfl) (r_ (vi_t (by cases w <;> kernel_rfl) (v_two (x := .str "free") rfl (vcall2 rfl rfl hd3))))))), ⟨by show v ≤ 1000; omega, by cases w <;> exact trivial, Nat.zero_le _⟩, hs3⟩
    · cases u with
      | zero => exact ⟨.int, s1, c_ (fn := f__law_kind) rfl rfl rfl (a_ way (i_t (by cases w <;> kernel_rfl) (r_ (by kernel_rfl)))), ⟨trivial, by cases w <;> exact trivial, Nat.zero_le _⟩, hs2.le (by omega)⟩
      | succ u =>
        obtain ⟨v, s3, hd3, h0, h1, hs3⟩ := draw_ok n hs2 (many := ((u + 1 : Nat) : Int)) (by omega) (by omega)
        obtain ⟨v, rfl, hv⟩ := small_nat h0 (n := u + 1) h1
        exact ⟨.var v, s3, c_ (fn := f__law_kind) rfl rfl rfl (a_ way (i_f (by cases w <;> kernel_rfl) (i_t (by cases w <;> kernel_rfl) (r_ (vi_f (by cases w <;> kernel_rfl) (v_two (x := .str "var") rfl (vcall2 rfl rfl hd3))))))), ⟨by show v ≤ 1000; omega, by cases w <;> exact trivial, Nat.zero_le _⟩, hs3⟩
  | succ d ih =>
    intro n u m s hu hn hs
    (obtain ⟨n, rfl⟩ : ∃ n', n = n' + 1 := ⟨n - 1, by omega⟩)
    have hw := W_pos d
    rw [W_succ] at hs
    have hs1 : s.I (m + 3 * W d + 6 + 1) := hs.le (by omega)
    obtain ⟨v, s1, hd, h0, h1, hs2⟩ := draw_ok (n + 1) hs1 (many := 9) (by decide) (by decide)
    have way : (evE (F (n + 2)) [] (.ite (.cmp .gt (.var 4) (.con (.int 0))) (.call 8 (.cons (.var 0) (.cons (.con (.int 9)) .nil))) (.call 8 (.cons (.var 0) (.cons (.con (.int 3)) .nil))))).v (env w u (d + 1)) s.hp = .ok (.int v) s1.hp :=
      vi_t (tcmp (x := .int ((d + 1 : Nat) : Int)) (y := .int 0) rfl rfl (by show some (decide ((0 : Int) < ((d + 1 : Nat) : Int))) = _; rw [decide_eq_true (by omega)])) (vcall2 rfl rfl hd)
    have deep : ∀ (ρ : PV.Env) (h : Hh), (evE (F (n + 2)) [] (.var 4)).v ρ h = .ok (.int ((d + 1 : Nat) : Int)) h → (evE (F (n + 2)) [] (.bin .sub (.var 4) (.con (.int 1)))).v ρ h = .ok (.int d) h := fun ρ h e => by
      rw [← dec_one d]; exact v_sub e rfl
    -- a row of kinds
    have rows : ∀ (u' k m : Nat) (s : Fl) (turn : D → Hh → R (Option D)), u' + 4 * d ≤ 900 → s.I (m + k * W d) → (∀ (x : D) (s s' : Fl) (kd : Kd), C (n + 2) 13 [.ref 1, .str (wd w), .int 3, .int u', .int d] s.hp = .ok kd.to s'.hp → turn x s.hp = .ok (some kd.to) s'.hp) →
        ∃ ks s', lcLoop (fun _ => true) turn (rngD 0 (k : Int)) [] s.hp = .ok (.lst (Ks.Ds ks)) (Fl.hp s') ∧ ks.len = k ∧ GKs w d ks ∧ s'.I m := by
      intro u' k m s turn hu' hs ht
      have := lc_kinds (w := w) (d := d) (W := W d) (turn := turn) (fun x m s hs => by
        obtain ⟨kd, s', e1, e2, e3⟩ := ih n u' m s hu' (by omega) hs
        exact ⟨kd, s', ht x s s' kd e1, e2, e3⟩) (rngD 0 (k : Int)) [] m s (by rw [rngD_len]; exact hs)
      rw [rngD_len] at this
      simpa using this
    have hv : v = 0 ∨ v = 1 ∨ v = 2 ∨ v = 3 ∨ v = 4 ∨ v = 5 ∨ v = 6 ∨ v = 7 ∨ v = 8 := by omega
    rcases hv with rfl | rfl | rfl | rfl | rfl | rfl | rfl | rfl | rfl
    · exact ⟨.int, s1, c_ (fn := f__law_kind) rfl rfl rfl (a_ way (i_t (by cases w <;> kernel_rfl) (r_ (by kernel_rfl)))), ⟨trivial, by cases w <;> exact trivial, Nat.zero_le _⟩, hs2.le (by omega)⟩
    · obtain ⟨v, s3, hd3, h0, h1, hs3⟩ := draw_ok (n + 1) (hs2.le (show m + 1 ≤ _ by omega)) (many := 3) (by decide) (by decide)
      obtain ⟨v, rfl, hv⟩ := small_nat h0 (n := 3) h1
      exact ⟨.free v, s3, c_ (fn := f__law_kind) rfl rfl rfl (a_ way (i_f (by cases w <;> kernel_rfl) (i_t (by cases w <;> kernel_rfl) (r_ (vi_t (by cases w <;> kernel_rfl) (v_two (x := .str "free") rfl (vcall2 rfl rfl hd3))))))), ⟨by show v ≤ 1000; omega, by cases w <;> exact trivial, Nat.zero_le _⟩, hs3⟩
    · cases u with
      | zero => exact ⟨.int, s1, c_ (fn := f__law_kind) rfl rfl rfl (a_ way (i_t (by cases w <;> kernel_rfl) (r_ (by kernel_rfl)))), ⟨trivial, by cases w <;> exact trivial, Nat.zero_le _⟩, hs2.le (by omega)⟩
      | succ u =>
        obtain ⟨v, s3, hd3, h0, h1, hs3⟩ := draw_ok (n + 1) (hs2.le (show m + 1 ≤ _ by omega)) (many := ((u + 1 : Nat) : Int)) (by omega) (by omega)
        obtain ⟨v, rfl, hv⟩ := small_nat h0 (n := u + 1) h1
        exact ⟨.var v, s3, c_ (fn := f__law_kind) rfl rfl rfl (a_ way (i_f (by cases w <;> kernel_rfl) (i_t (by cases w <;> kernel_rfl) (r_ (vi_f (by cases w <;> kernel_rfl) (v_two (x := .str "var") rfl (vcall2 rfl rfl hd3))))))), ⟨by show v ≤ 1000; omega, by cases w <;> exact trivial, Nat.zero_le _⟩, hs3⟩
    · -- a row, a room
      obtain ⟨v, s3, hd3, h0, h1, hs3⟩ := draw_ok (n + 1) (hs2.le (show m + 3 * W d + 4 + 1 ≤ _ by omega)) (many := 4) (by decide) (by decide)
      obtain ⟨k, rfl, hk⟩ := small_nat h0 (n := 4) h1
      have hkw : k * W d ≤ 3 * W d := Nat.mul_le_mul_right _ (by omega)
      obtain ⟨ks, s4, e1, e2, e3, e4⟩ := rows u k (m + 4) s3 (lcTurn (.v 8) (evE (F (n + 2)) [] .miss) (evE (F (n + 2)) [] x__law_kind_0) [some (.ref 1), some (.str (wd w)), some (.int 3), some (.int u), some (.int ((d + 1 : Nat) : Int)), some (.int 3), some (.int k), none, none, none, none]) (by omega) (hs3.le (by omega))
        (fun x s s' kd e => turn1' (vcall5 rfl rfl rfl rfl (deep _ _ rfl) e))
      have hin : (evE (F (n + 2)) [] e__law_kind_0).v [some (.ref 1), some (.str (wd w)), some (.int 3), some (.int u), some (.int ((d + 1 : Nat) : Int)), some (.int 3), some (.int k), none, none, none, none] s3.hp = .ok (.lst ks.Ds) s4.hp := v_lc' (it_rng' (by omega) rfl) (by rw [rngD_len]; omega) e1
      cases w with
      | false => exact ⟨.mn .row ks, s4, c_ (fn := f__law_kind) rfl rfl rfl (a_ way (i_f (by kernel_rfl) (i_f (by kernel_rfl) (i_t (by kernel_rfl) (a_ (vi_t (by kernel_rfl) (vcall2 rfl rfl hd3)) (al_ hin (i_f (by kernel_rfl) (r_ (v_two (x := .str "row") (by kernel_rfl) (v_tup' rfl)))))))))), ⟨⟨by omega, by decide, e3.o⟩, e3.p, Nat.succ_le_succ e3.d⟩, e4.le (by omega)⟩
      | true =>
        obtain ⟨ks', s5, f1, f2, f3, f4⟩ := lc_flags (w := true) (d := d) (turn := lcTurn (.v 9) (evE (F (n + 2)) [] .miss) (evE (F (n + 2)) [] x__law_kind_1) [some (.ref 1), some (.str "room"), some (.int 3), some (.int u), some (.int ((d + 1 : Nat) : Int)), some (.int 3), some (.int k), some (.lst ks.Ds), none, none, none])
          (fun x m s hs => by
            obtain ⟨v, s', hd, h0, h1, hs'⟩ := draw_ok (n + 1) hs (many := 2) (by decide) (by decide)
            exact ⟨decide (v = 0), s', turn1' (v_two rfl (veqc (vcall2 rfl rfl hd) rfl (eq_ints _ _ _))), hs'⟩) ks [] m s4 e3 (e4.le (by omega))
        exact ⟨.mn .room ks', s5, c_ (fn := f__law_kind) rfl rfl rfl (a_ way (i_f (by kernel_rfl) (i_f (by kernel_rfl) (i_t (by kernel_rfl) (a_ (vi_t (by kernel_rfl) (vcall2 rfl rfl hd3)) (al_ hin (i_t (by kernel_rfl) (r_ (v_two (x := .str "room") rfl (v_tup' (e := e__law_kind_1) (v_lc' (xs := ks.Ds) rfl (by rw [Ds_len]; omega) f1))))))))))), ⟨⟨by omega, by decide, f3.o⟩, f3.p, Nat.succ_le_succ f3.d⟩, f4⟩
    · -- one
      obtain ⟨v, s3, hd3, h0, h1, hs3⟩ := draw_ok (n + 1) (hs2.le (show m + 3 * W d + 4 + 1 ≤ _ by omega)) (many := 3) (by decide) (by decide)
      obtain ⟨k, rfl, hk⟩ := small_nat h0 (n := 3) h1
      have hkw : (1 + k) * W d ≤ 3 * W d := Nat.mul_le_mul_right _ (by omega)
      obtain ⟨ks, s4, e1, e2, e3, e4⟩ := rows u (1 + k) m s3 (lcTurn (.v 8) (evE (F (n + 2)) [] .miss) (evE (F (n + 2)) [] x__law_kind_0) [some (.ref 1), some (.str (wd w)), some (.int 3), some (.int u), some (.int ((d + 1 : Nat) : Int)), some (.int 4), some (.int ((1 + k : Nat) : Int)), none, none, none, none]) (by omega) (hs3.le (by omega))
        (fun x s s' kd e => turn1' (vcall5 rfl rfl rfl rfl (deep _ _ rfl) e))
      have hin : (evE (F (n + 2)) [] e__law_kind_0).v [some (.ref 1), some (.str (wd w)), some (.int 3), some (.int u), some (.int ((d + 1 : Nat) : Int)), some (.int 4), some (.int ((1 + k : Nat) : Int)), none, none, none, none] s3.hp = .ok (.lst ks.Ds) s4.hp := v_lc' (it_rng' (by omega) rfl) (by rw [rngD_len]; omega) e1
      have hmany : (evE (F (n + 2)) [] (.ite (.cmp .eq (.var 5) (.con (.int 3))) (.call 8 (.cons (.var 0) (.cons (.con (.int 4)) .nil))) (.bin .add (.con (.int 1)) (.call 8 (.cons (.var 0) (.cons (.con (.int 3)) .nil)))))).v [some (.ref 1), some (.str (wd w)), some (.int 3), some (.int u), some (.int ((d + 1 : Nat) : Int)), some (.int 4), none, none, none, none, none] s1.hp = .ok (.int ((1 + k : Nat) : Int)) s3.hp := by
        refine vi_f (by kernel_rfl) ?_
        exact v_add' (i := 1) (j := (k : Int)) rfl (vcall2 rfl rfl hd3)
      exact ⟨.mn .one ks, s4, c_ (fn := f__law_kind) rfl rfl rfl (a_ way (i_f (by cases w <;> kernel_rfl) (i_f (by cases w <;> kernel_rfl) (i_t (by cases w <;> kernel_rfl) (a_ hmany (al_ hin (i_f (by cases w <;> kernel_rfl) (r_ (v_two (x := .str "one") (by cases w <;> kernel_rfl) (v_tup' rfl)))))))))), ⟨⟨by omega, by decide, e3.o⟩, by cases w <;> exact e3.p, Nat.succ_le_succ e3.d⟩, e4⟩
    · -- cell
      obtain ⟨k, s3, e1, e2, e3⟩ := ih n u m s1 (by omega) (by omega) (hs2.le (by omega))
      exact ⟨.un .cel k, s3, c_ (fn := f__law_kind) rfl rfl rfl (a_ way (i_f (by cases w <;> kernel_rfl) (i_f (by cases w <;> kernel_rfl) (i_f (by cases w <;> kernel_rfl) (i_t (by cases w <;> kernel_rfl) (r_ (v_two (x := .str "cell") rfl (vcall5 rfl rfl rfl rfl (deep _ _ rfl) e1)))))))), ⟨e2.o, by cases w <;> exact e2.p, Nat.succ_le_succ e2.d⟩, e3⟩
    · -- some
      obtain ⟨k, s3, e1, e2, e3⟩ := ih n (u + 1) m s1 (by omega) (by omega) (hs2.le (by omega))
      exact ⟨.un .som k, s3, c_ (fn := f__law_kind) rfl rfl rfl (a_ way (i_f (by cases w <;> kernel_rfl) (i_f (by cases w <;> kernel_rfl) (i_f (by cases w <;> kernel_rfl) (i_f (by cases w <;> kernel_rfl) (i_t (by cases w <;> kernel_rfl) (a_ (vcall5 (d := .int ((u + 1 : Nat) : Int)) rfl rfl rfl (by kernel_rfl) (deep _ _ rfl) e1) (r_ (v_two (x := .str "some") (by cases w <;> kernel_rfl) rfl))))))))), ⟨e2.o, by cases w <;> exact e2.p, Nat.succ_le_succ e2.d⟩, e3⟩
    · -- some, rec
      obtain ⟨k, s3, e1, e2, e3⟩ := ih n (u + 1) m s1 (by omega) (by omega) (hs2.le (by omega))
      have hnm : ∃ wn : Un, (evE (F (n + 2)) [] (.ite (.or (.cmp .eq (.var 5) (.con (.int 6))) (.cons (.cmp .inn (.idx (.var 7) (.con (.int 0))) (.tup (.cons (.con (.str "free")) (.cons (.con (.str "var")) .nil)))) .nil)) (.con (.str "some")) (.con (.str "rec")))).v [some (.ref 1), some (.str (wd w)), some (.int 3), some (.int u), some (.int ((d + 1 : Nat) : Int)), some (.int 7), none, some k.to, none, none, none] s3.hp = .ok (.str wn.nm) s3.hp := by
        cases k with
        | int => exact ⟨.re, by kernel_rfl⟩
        | free v => exact ⟨.som, by kernel_rfl⟩
        | var v => exact ⟨.som, by kernel_rfl⟩
        | un x k => cases x <;> exact ⟨.re, by kernel_rfl⟩
        | mn x k => cases x <;> exact ⟨.re, by kernel_rfl⟩
      obtain ⟨wn, hwn⟩ := hnm
      exact ⟨.un wn k, s3, c_ (fn := f__law_kind) rfl rfl rfl (a_ way (i_f (by cases w <;> kernel_rfl) (i_f (by cases w <;> kernel_rfl) (i_f (by cases w <;> kernel_rfl) (i_f (by cases w <;> kernel_rfl) (i_t (by cases w <;> kernel_rfl) (a_ (vcall5 (d := .int ((u + 1 : Nat) : Int)) rfl rfl rfl (by kernel_rfl) (deep _ _ rfl) e1) (r_ (v_two (x := .str wn.nm) hwn rfl))))))))), ⟨e2.o, by cases w <;> exact e2.p, Nat.succ_le_succ e2.d⟩, e3⟩
    · -- not
      obtain ⟨v, s3, hd3, h0, h1, hs3⟩ := draw_ok (n + 1) (hs2.le (show m + 3 * W d + 4 + 1 ≤ _ by omega)) (many := 4) (by decide) (by decide)
      obtain ⟨b, rfl, hb⟩ := small_nat h0 (n := 4) h1
      obtain ⟨v, s4, hd4, h0, h1, hs4⟩ := draw_ok (n + 1) (hs3.le (show m + 3 * W d + 3 + 1 ≤ _ by omega)) (many := 4) (by decide) (by decide)
      obtain ⟨k, rfl, hk⟩ := small_nat h0 (n := 4) h1
      have hkw : k * W d ≤ 3 * W d := Nat.mul_le_mul_right _ (by omega)
      obtain ⟨ks, s5, e1, e2, e3, e4⟩ := rows (u + b) k m s4 (lcTurn (.v 8) (evE (F (n + 2)) [] .miss) (evE (F (n + 2)) [] x__law_kind_2) [some (.ref 1), some (.str (wd w)), some (.int 3), some (.int u), some (.int ((d + 1 : Nat) : Int)), some (.int 8), none, none, none, none, some (.int b)]) (by omega) (hs4.le (by omega))
        (fun x s s' kd e => turn1' (vcall5 (d := .int ((u + b : Nat) : Int)) rfl rfl rfl (by kernel_rfl) (deep _ _ rfl) e))
      exact ⟨.mn (.not b) ks, s5, c_ (fn := f__law_kind) rfl rfl rfl (a_ way (i_f (by cases w <;> kernel_rfl) (i_f (by cases w <;> kernel_rfl) (i_f (by cases w <;> kernel_rfl) (i_f (by cases w <;> kernel_rfl) (i_f (by cases w <;> kernel_rfl) (a_ (vcall2 rfl rfl hd3) (r_ (v_three (x := .str "not") rfl rfl (v_tup' (e := e__law_kind_2) (v_lc' (it_rng' (n := k) (by omega) (vcall2 rfl rfl hd4)) (by rw [rngD_len]; omega) e1))))))))))), ⟨⟨by omega, by show b ≤ 1000; omega, e3.o⟩, by cases w <;> exact e3.p, Nat.succ_le_succ e3.d⟩, e4⟩
end K44
end

section
set_option maxRecDepth 100000
namespace K44
open PySem PV
/-! ### what repr shows is short -/
structure Rp (x : D) (d w : Nat) : Prop where
  lay : x.lay = true
  dep : x.dep ≤ d
  sh : x.py.showable = true
  is : x.py.intsShort 13 = true
  we : x.py.weight ≤ w
structure Rps (xs : List D) (d w : Nat) : Prop where
  lay : D.lays xs = true
  dep : D.deps xs ≤ d
  sh : PyData.showableAll (D.pys xs) = true
  is : PyData.intsShortAll 13 (D.pys xs) = true
  we : PyData.weightAll (D.pys xs) ≤ w
theorem Rps.nil {d w : Nat} : Rps [] d w := ⟨rfl, Nat.zero_le _, rfl, rfl, Nat.zero_le _⟩
theorem Rps.cons {x : D} {xs : List D} {d w w' : Nat} (h : Rp x d w) (t : Rps xs d w') : Rps (x :: xs) d (w + 1 + w') where
  lay := by simp only [D.lays, h.lay, t.lay, Bool.and_self]
  dep := by simp only [D.deps]; exact Nat.max_le.mpr ⟨h.dep, t.dep⟩
  sh := by simp only [D.pys, PyData.showableAll, h.sh, t.sh, Bool.and_self]
  is := by simp only [D.pys, PyData.intsShortAll, h.is, t.is, Bool.and_self]
  we := by simp only [D.pys, PyData.weightAll]; have := h.we; have := t.we; omega
theorem Rps.mono {xs : List D} {d w d' w' : Nat} (h : Rps xs d w) (hd : d ≤ d') (hw : w ≤ w') : Rps xs d' w' := ⟨h.lay, Nat.le_trans h.dep hd, h.sh, h.is, Nat.le_trans h.we hw⟩
theorem Rp.mono {x : D} {d w d' w' : Nat} (h : Rp x d w) (hd : d ≤ d') (hw : w ≤ w') : Rp x d' w' := ⟨h.lay, Nat.le_trans h.dep hd, h.sh, h.is, Nat.le_trans h.we hw⟩
theorem Rps.tup {xs : List D} {d w : Nat} (h : Rps xs d w) : Rp (.tup xs) (d + 1) w where
  lay := by simp only [D.lay, h.lay]
  dep := by simp only [D.dep]; have := h.dep; omega
  sh := by simp only [D.py, PyData.showable, h.sh]
  is := by simp only [D.py, PyData.intsShort, h.is]
  we := by simp only [D.py, PyData.weight]; exact h.we
theorem Rps.lst {xs : List D} {d w : Nat} (h : Rps xs d w) : Rp (.lst xs) (d + 1) w where
  lay := by simp only [D.lay, h.lay]
  dep := by simp only [D.dep]; have := h.dep; omega
  sh := by simp only [D.py, PyData.showable, h.sh]
  is := by simp only [D.py, PyData.intsShort, h.is]
  we := by simp only [D.py, PyData.weight]; exact h.we
theorem Rp.word {x : Str} (h : PyData.strOk x = true) (hs : x.cps.size ≤ 10) {d : Nat} : Rp (.str x) d 10 where
  lay := by simp only [D.lay, h]
  dep := Nat.zero_le _
  sh := by simp only [D.py, PyData.showable]
  is := by simp only [D.py, PyData.intsShort]
  we := by simp only [D.py, PyData.weight]; exact hs
theorem Rp.bl {b : Bool} {d w : Nat} : Rp (.bl b) d w := ⟨rfl, Nat.zero_le _, rfl, rfl, Nat.zero_le _⟩
theorem log_small {n : Nat} (h : n ≤ 1000) : n.log2 < 10 := by
  by_cases h0 : n = 0
  · subst h0; decide
  · exact (Nat.log2_lt h0).mpr (by omega)
theorem Rp.num {n : Nat} (h : n ≤ 1000) {d : Nat} : Rp (.int (n : Int)) d 10 where
  lay := rfl
  dep := Nat.zero_le _
  sh := by
    show decide ((n : Int).natAbs.log2 < 1920) = true
    have := log_small h
    exact decide_eq_true (by rw [Int.natAbs_natCast]; omega)
  is := by
    show decide ((PyData.shown (.int (n : Int))).length ≤ 13) = true
    exact decide_eq_true (PyData.shown_int_le (by rw [Int.natAbs_natCast]; omega))
  we := by
    show (if (n : Int) == 0 then 0 else (n : Int).natAbs.log2 + 1) ≤ 10
    have := log_small h
    split
    · omega
    · rw [Int.natAbs_natCast]; omega
def Nw (d : Nat) : Nat := 100 * 4 ^ d
theorem Nw_succ (d : Nat) : Nw (d + 1) = 4 * Nw d := by unfold Nw; rw [Nat.pow_succ]; omega
theorem Nw_pos (d : Nat) : 100 ≤ Nw d := by
  have : 0 < 4 ^ d := Nat.pow_pos (by decide)
  unfold Nw; omega
theorem Nw_mono {d e : Nat} (h : d ≤ e) : Nw d ≤ Nw e := by
  have := Nat.pow_le_pow_right (show 0 < 4 by decide) h
  unfold Nw; omega
theorem so_int : PyData.strOk "int" = true := by decide +kernel
theorem so_free : PyData.strOk "free" = true := by decide +kernel
theorem so_var : PyData.strOk "var" = true := by decide +kernel
theorem so_un (w : Un) : PyData.strOk w.nm = true := by cases w <;> decide +kernel
theorem sz_un (w : Un) : w.nm.cps.size ≤ 10 := by cases w <;> decide +kernel
theorem so_row : PyData.strOk "row" = true := by decide +kernel
theorem so_one : PyData.strOk "one" = true := by decide +kernel
theorem so_room : PyData.strOk "room" = true := by decide +kernel
theorem so_not : PyData.strOk "not" = true := by decide +kernel
mutual
theorem rp (w : Bool) : ∀ k : Kd, k.o3 → k.P w → Rp k.to (3 * k.dep + 1) (Nw k.dep)
  | .int, _, _ => (Rps.cons (d := 0) (Rp.word so_int (by decide +kernel)) (Rps.nil (w := 0))).tup.mono (by omega) (by have := Nw_pos 0; show 11 ≤ Nw 0; omega)
  | .free n, h, _ => (Rps.cons (d := 0) (Rp.word so_free (by decide +kernel)) (Rps.cons (Rp.num h) (Rps.nil (w := 0)))).tup.mono (by omega) (by have := Nw_pos 0; show 22 ≤ Nw 0; omega)
  | .var n, h, _ => (Rps.cons (d := 0) (Rp.word so_var (by decide +kernel)) (Rps.cons (Rp.num h) (Rps.nil (w := 0)))).tup.mono (by omega) (by have := Nw_pos 0; show 22 ≤ Nw 0; omega)
  | .un x k, h, hp => by
    have ih := rp w k h (by cases w <;> exact hp)
    have := Nw_pos k.dep
    exact (Rps.cons (Rp.word (so_un x) (sz_un x)) (Rps.cons ih (Rps.nil (w := 0)))).tup.mono (by show _ ≤ 3 * (k.dep + 1) + 1; omega) (by show _ ≤ Nw (k.dep + 1); rw [Nw_succ]; omega)
  | .mn m ks, h, hp => by
    have hl : ks.len ≤ 3 := h.1
    have hb : m.binds ≤ 1000 := h.2.1
    have := Nw_pos ks.dep
    have hm : ks.len * (Nw ks.dep + 6) ≤ 3 * (Nw ks.dep + 6) := Nat.mul_le_mul_right _ hl
    have goalw : ∀ {a : Nat}, a ≤ 3 * (Nw ks.dep + 6) + 40 → a ≤ Nw (Kd.dep (.mn m ks)) := fun ha => by show _ ≤ Nw (ks.dep + 1); rw [Nw_succ]; omega
    have hks : ks.P w → Rps ks.Ds (3 * ks.dep + 1) (ks.len * (Nw ks.dep + 6)) := fun hp => (rps w ks h.2.2 hp).1
    have hfs : ks.P w → Rps ks.Fs (3 * ks.dep + 2) (ks.len * (Nw ks.dep + 6)) := fun hp => (rps w ks h.2.2 hp).2
    cases m with
    | row =>
      have hp : ks.P w := by cases w <;> first | exact hp | exact False.elim hp
      exact (Rps.cons (Rp.word so_row (by decide +kernel)) (Rps.cons (hks hp).tup (Rps.nil (w := 0)))).tup.mono (by show _ ≤ 3 * (ks.dep + 1) + 1; omega) (goalw (by omega))
    | one =>
      have hp : ks.P w := by cases w <;> exact hp
      exact (Rps.cons (Rp.word so_one (by decide +kernel)) (Rps.cons (hks hp).tup (Rps.nil (w := 0)))).tup.mono (by show _ ≤ 3 * (ks.dep + 1) + 1; omega) (goalw (by omega))
    | room =>
      have hp : ks.P w := by cases w <;> first | exact hp | exact False.elim hp
      exact (Rps.cons (Rp.word so_room (by decide +kernel)) (Rps.cons (hfs hp).tup (Rps.nil (w := 0)))).tup.mono (by show _ ≤ 3 * (ks.dep + 1) + 1; omega) (goalw (by omega))
    | not n =>
      have hp : ks.P w := by cases w <;> exact hp
      exact (Rps.cons (Rp.word so_not (by decide +kernel)) (Rps.cons (Rp.num hb) (Rps.cons (hks hp).tup (Rps.nil (w := 0))))).tup.mono (by show _ ≤ 3 * (ks.dep + 1) + 1; omega) (goalw (by omega))
    | code n => exact False.elim (by cases w <;> exact hp)
theorem rps (w : Bool) : ∀ ks : Ks, ks.o3 → ks.P w → Rps ks.Ds (3 * ks.dep + 1) (ks.len * (Nw ks.dep + 6)) ∧ Rps ks.Fs (3 * ks.dep + 2) (ks.len * (Nw ks.dep + 6))
  | .nil, _, _ => ⟨.nil, .nil⟩
  | .cons b k r, h, hp => by
    have hk := rp w k h.1 (by cases w <;> exact hp.1)
    obtain ⟨h1, h2⟩ := rps w r h.2 (by cases w <;> exact hp.2)
    have d1 : k.dep ≤ Ks.dep (.cons b k r) := Nat.le_max_left _ _
    have d2 : r.dep ≤ Ks.dep (.cons b k r) := Nat.le_max_right _ _
    have n1 := Nw_mono d1
    have n2 := Nw_mono d2
    have e : Ks.len (.cons b k r) * (Nw (Ks.dep (.cons b k r)) + 6) = Nw (Ks.dep (.cons b k r)) + 6 + r.len * (Nw (Ks.dep (.cons b k r)) + 6) := by
      show (r.len + 1) * _ = _
      rw [Nat.add_mul, Nat.one_mul, Nat.add_comm]
    have hm : r.len * (Nw r.dep + 6) ≤ r.len * (Nw (Ks.dep (.cons b k r)) + 6) := Nat.mul_le_mul_left _ (by omega)
    rw [e]
    refine ⟨(Rps.cons (hk.mono (by omega) (Nat.le_refl _)) (h1.mono (by omega) (Nat.le_refl _))).mono (Nat.le_refl _) (by omega), ?_⟩
    exact (Rps.cons ((Rps.cons hk (Rps.cons (Rp.bl (b := b) (w := 0)) (Rps.nil (w := 0)))).tup.mono (by omega) (Nat.le_refl _)) (h2.mono (by omega) (Nat.le_refl _))).mono (Nat.le_refl _) (by omega)
end
end K44
end

section
set_option maxRecDepth 100000
namespace K44
open PySem PV
mutual
theorem o3_sm : ∀ k : Kd, k.o3 → k.sm
  | .int, _ => trivial
  | .free _, _ => trivial
  | .var _, _ => trivial
  | .un _ k, h => o3_sm k h
  | .mn _ ks, h => ⟨by have := h.1; omega, o3s_sm ks h.2.2⟩
theorem o3s_sm : ∀ k : Ks, k.o3 → k.sm
  | .nil, _ => trivial
  | .cons _ k r, h => ⟨o3_sm k h.1, o3s_sm r h.2⟩
end
mutual
theorem sto_sm : ∀ k : Kd, k.sm → k.sto.sm
  | .int, _ => trivial
  | .free _, _ => trivial
  | .var _, _ => trivial
  | .un _ k, h => sto_sm k h
  | .mn m ks, h => by
    cases m <;> exact ⟨by rw [sto_len]; exact h.1, stos_sm ks h.2⟩
theorem stos_sm : ∀ (k : Ks) {t : Bool}, k.sm → (k.sto t).sm
  | .nil, _, _ => trivial
  | .cons _ k r, _, h => ⟨sto_sm k h.1, stos_sm r h.2⟩
end
mutual
theorem cod_sm : ∀ k : Kd, k.sm → k.cod.sm
  | .int, _ => trivial
  | .free _, _ => trivial
  | .var _, _ => trivial
  | .un _ k, h => cod_sm k h
  | .mn m ks, h => by
    cases m <;> exact ⟨by rw [cod_len]; exact h.1, cods_sm ks h.2⟩
theorem cods_sm : ∀ (k : Ks), k.sm → (k.cod).sm
  | .nil, _ => trivial
  | .cons _ k r, h => ⟨cod_sm k h.1, cods_sm r h.2⟩
end
mutual
theorem sto_dep : ∀ k : Kd, k.sto.dep = k.dep
  | .int => rfl
  | .free _ => rfl
  | .var _ => rfl
  | .un _ k => by show k.sto.dep + 1 = k.dep + 1; rw [sto_dep k]
  | .mn m ks => by
    cases m <;> (show (ks.sto _).dep + 1 = ks.dep + 1; rw [stos_dep ks])
theorem stos_dep : ∀ (k : Ks) {t : Bool}, (k.sto t).dep = k.dep
  | .nil, _ => rfl
  | .cons _ k r, t => by show max k.sto.dep (r.sto t).dep = max k.dep r.dep; rw [sto_dep k, stos_dep r]
end
mutual
theorem cod_dep : ∀ k : Kd, k.cod.dep = k.dep
  | .int => rfl
  | .free _ => rfl
  | .var _ => rfl
  | .un _ k => by show k.cod.dep + 1 = k.dep + 1; rw [cod_dep k]
  | .mn m ks => by
    cases m <;> (show (ks.cod).dep + 1 = ks.dep + 1; rw [cods_dep ks])
theorem cods_dep : ∀ (k : Ks), (k.cod).dep = k.dep
  | .nil => rfl
  | .cons _ k r => by show max k.cod.dep (r.cod).dep = max k.dep r.dep; rw [cod_dep k, cods_dep r]
end
mutual
theorem put_sm (s : List Kd) (hs : ∀ x ∈ s, x.sm) : ∀ (k : Kd) (u : Nat), k.sm → (k.put s u).sm
  | .int, _, _ => trivial
  | .free _, _, _ => trivial
  | .var n, u, _ => by
    show Kd.sm (if n < u then _ else _)
    split
    · trivial
    · split
      · rename_i k hk; exact hs _ (List.mem_of_getElem? hk)
      · trivial
  | .un w k, u, h => put_sm s hs k _ h
  | .mn m ks, u, h => ⟨by rw [put_len]; exact h.1, puts_sm s hs ks _ h.2⟩
theorem puts_sm (s : List Kd) (hs : ∀ x ∈ s, x.sm) : ∀ (k : Ks) (u : Nat), k.sm → (k.put s u).sm
  | .nil, _, _ => trivial
  | .cons _ k r, u, h => ⟨put_sm s hs k u h.1, puts_sm s hs r u h.2⟩
end
mutual
theorem put_dep (s : List Kd) (M : Nat) (hs : ∀ x ∈ s, x.dep ≤ M) : ∀ (k : Kd) (u : Nat), (k.put s u).dep ≤ k.dep + M
  | .int, _ => Nat.zero_le _
  | .free _, _ => Nat.zero_le _
  | .var n, u => by
    show Kd.dep (if n < u then _ else _) ≤ _
    split
    · exact Nat.zero_le _
    · split
      · rename_i k hk; exact Nat.le_trans (hs _ (List.mem_of_getElem? hk)) (Nat.le_add_left _ _)
      · exact Nat.zero_le _
  | .un w k, u => by have := put_dep s M hs k (u + w.binds); show (k.put s _).dep + 1 ≤ k.dep + 1 + M; omega
  | .mn m ks, u => by have := puts_dep s M hs ks (u + m.binds); show (ks.put s _).dep + 1 ≤ ks.dep + 1 + M; omega
theorem puts_dep (s : List Kd) (M : Nat) (hs : ∀ x ∈ s, x.dep ≤ M) : ∀ (k : Ks) (u : Nat), (k.put s u).dep ≤ k.dep + M
  | .nil, _ => Nat.zero_le _
  | .cons _ k r, u => by
    have h1 := put_dep s M hs k u
    have h2 := puts_dep s M hs r u
    show max (k.put s u).dep (r.put s u).dep ≤ max k.dep r.dep + M
    omega
end
theorem pds_enum : ∀ (xs : List D) (n : Nat), pds xs = true → pds (enumD n xs) = true
  | [], _, _ => rfl
  | x :: xs, n, h => by
    simp only [pds, Bool.and_eq_true] at h
    show (pd (.tup [.int n, x]) && pds (enumD (n + 1) xs)) = true
    simp only [pd, pds, h.1, pds_enum xs (n + 1) h.2, Bool.true_and, Bool.and_true]
    rfl
mutual
theorem pd_to : ∀ k : Kd, k.sm → pd k.to = true
  | .int, _ => rfl
  | .free _, _ => rfl
  | .var _, _ => rfl
  | .un w k, h => by
    show (pds [.str w.nm, k.to] && _) = true
    simp only [pds, pd, pd_to k h, Bool.true_and]; rfl
  | .mn m ks, h => by
    have hl : ks.len ≤ 1000 := h.1
    obtain ⟨p1, p2⟩ := pds_to ks h.2
    cases m with
    | row => show (pds [.str "row", .tup ks.Ds] && _) = true; simp only [pds, pd, p1, Ds_len, decide_eq_true hl, Bool.true_and]; rfl
    | one => show (pds [.str "one", .tup ks.Ds] && _) = true; simp only [pds, pd, p1, Ds_len, decide_eq_true hl, Bool.true_and]; rfl
    | room => show (pds [.str "room", .tup ks.Fs] && _) = true; simp only [pds, pd, p2, Fs_len, decide_eq_true hl, Bool.true_and]; rfl
    | not n => show (pds [.str "not", .int n, .tup ks.Ds] && _) = true; simp only [pds, pd, p1, Ds_len, decide_eq_true hl, Bool.true_and]; rfl
    | code n => show (pds [.str "code", .int n, .tup (enumD 0 ks.Ds)] && _) = true; simp only [pds, pd, pds_enum _ 0 p1, enumD_len, Ds_len, decide_eq_true hl, Bool.true_and]; rfl
theorem pds_to : ∀ k : Ks, k.sm → pds k.Ds = true ∧ pds k.Fs = true
  | .nil, _ => ⟨rfl, rfl⟩
  | .cons b k r, h => by
    obtain ⟨h1, h2⟩ := pds_to r h.2
    have hk := pd_to k h.1
    refine ⟨?_, ?_⟩
    · show (pd k.to && pds r.Ds) = true; rw [hk, h1]; rfl
    · show (pd (.tup [k.to, .bl b]) && pds r.Fs) = true
      rw [h2]
      simp only [pd, pds, hk, Bool.true_and, Bool.and_true]; rfl
end
theorem deps_enum : ∀ (xs : List D) (n : Nat), D.deps (enumD n xs) ≤ D.deps xs + 1
  | [], _ => Nat.zero_le _
  | x :: xs, n => by
    have := deps_enum xs (n + 1)
    show max (max 0 (max x.dep 0) + 1) (D.deps (enumD (n + 1) xs)) ≤ max x.dep (D.deps xs) + 1
    omega
mutual
theorem dep_to : ∀ k : Kd, k.to.dep ≤ 3 * k.dep + 1
  | .int => by decide +kernel
  | .free _ => by show max 0 (max 0 0) + 1 ≤ _; omega
  | .var _ => by show max 0 (max 0 0) + 1 ≤ _; omega
  | .un w k => by have := dep_to k; show max 0 (max k.to.dep 0) + 1 ≤ 3 * (k.dep + 1) + 1; omega
  | .mn m ks => by
    obtain ⟨h1, h2⟩ := deps_to ks
    have h3 := deps_enum ks.Ds 0
    cases m with
    | row => show max 0 (max (D.deps ks.Ds + 1) 0) + 1 ≤ 3 * (ks.dep + 1) + 1; omega
    | one => show max 0 (max (D.deps ks.Ds + 1) 0) + 1 ≤ 3 * (ks.dep + 1) + 1; omega
    | room => show max 0 (max (D.deps ks.Fs + 1) 0) + 1 ≤ 3 * (ks.dep + 1) + 1; omega
    | not n => show max 0 (max 0 (max (D.deps ks.Ds + 1) 0)) + 1 ≤ 3 * (ks.dep + 1) + 1; omega
    | code n => show max 0 (max 0 (max (D.deps (enumD 0 ks.Ds) + 1) 0)) + 1 ≤ 3 * (ks.dep + 1) + 1; omega
theorem deps_to : ∀ k : Ks, D.deps k.Ds ≤ 3 * k.dep + 1 ∧ D.deps k.Fs ≤ 3 * k.dep + 2
  | .nil => ⟨Nat.zero_le _, Nat.zero_le _⟩
  | .cons b k r => by
    obtain ⟨h1, h2⟩ := deps_to r
    have h3 := dep_to k
    refine ⟨?_, ?_⟩
    · show max k.to.dep (D.deps r.Ds) ≤ 3 * max k.dep r.dep + 1; omega
    · show max (max k.to.dep (max 0 0) + 1) (D.deps r.Fs) ≤ 3 * max k.dep r.dep + 2; omega
end
/-! _law_stored of what is drawn for code: whatever it is -/
mutual
theorem lst_ex (h : Hh) : ∀ (d : Kd) (n : Nat), d.sm → d.pC → d.dep ≤ n → ∃ y, C (n + 1) 11 [d.to] h = .ok y h
  | .int, n, _, _, _ => ⟨_, lsto_ok h .int n trivial trivial (Nat.zero_le _)⟩
  | .free v, n, _, _, _ => ⟨_, lsto_ok h (.free v) n trivial trivial (Nat.zero_le _)⟩
  | .var v, n, _, _, _ => ⟨_, lsto_ok h (.var v) n trivial trivial (Nat.zero_le _)⟩
  | .un w d, n + 1, hs, hp, hd => by
    obtain ⟨y, ih⟩ := lst_ex h d n hs hp (Nat.le_of_succ_le_succ hd)
    exact ⟨_, c_ (fn := f__law_stored) rfl rfl rfl (a_ (h1 := h) (x := .str w.nm) (by cases w <;> kernel_rfl) (i_f (by cases w <;> kernel_rfl) (i_f (by cases w <;> kernel_rfl) (r_ (vi_t (by cases w <;> kernel_rfl) (v_tup2' (c := .str w.nm) rfl (vcall1 (x := d.to) (by cases w <;> kernel_rfl) ih)))))))⟩
  | .mn m ks, n + 1, hs, hp, hd => by
    have hl : ks.len ≤ 1000 := hs.1
    cases m with
    | row => exact hp.elim
    | one =>
      obtain ⟨ys, ih⟩ := lsts_ex h ks n hs.2 hp (Nat.le_of_succ_le_succ hd)
      exact ⟨_, c_ (fn := f__law_stored) rfl rfl rfl (a_ (h1 := h) (x := .str "one") (by kernel_rfl) (i_t (by kernel_rfl) (a_ (h1 := h) (x := .tup ys) (lsto_new (xs := ks.Ds) (by kernel_rfl) (by rw [Ds_len]; exact hl) ih) (r_ (vi_f (by kernel_rfl) (v_tup2 rfl))))))⟩
    | not v =>
      obtain ⟨ys, ih⟩ := lsts_ex h ks n hs.2 hp (Nat.le_of_succ_le_succ hd)
      exact ⟨_, c_ (fn := f__law_stored) rfl rfl rfl (a_ (h1 := h) (x := .str "not") (by kernel_rfl) (i_f (by kernel_rfl) (i_t (by kernel_rfl) (r_ (v_tup3 (y := .int v) (by kernel_rfl) (lsto_new (xs := ks.Ds) (by kernel_rfl) (by rw [Ds_len]; exact hl) ih))))))⟩
    | room => exact ⟨Kd.to (.mn .room ks), by kernel_rfl⟩
    | code v => exact hp.elim
theorem lsts_ex (h : Hh) : ∀ (ks : Ks) (n : Nat), ks.sm → ks.pC → ks.dep ≤ n → ∃ ys, A2 (fun x y => C (n + 1) 11 [x] h = .ok y h) ks.Ds ys
  | .nil, _, _, _, _ => ⟨[], .nil⟩
  | .cons b k r, n, hs, hp, hd => by
    obtain ⟨y, h1⟩ := lst_ex h k n hs.1 hp.1 (Nat.le_trans (Nat.le_max_left _ _) hd)
    obtain ⟨ys, h2⟩ := lsts_ex h r n hs.2 hp.2 (Nat.le_trans (Nat.le_max_right _ _) hd)
    exact ⟨_, .cons h1 h2⟩
end
end K44
end

section
set_option maxRecDepth 100000
namespace K44
open PySem PV
/-! ### repr of three kinds -/
theorem Nw5 : Nw 5 = 102400 := by decide +kernel
theorem repr_ok {w : Bool} {k1 k2 k3 : Kd} (h1 : GK w 5 k1) (h2 : GK w 5 k2) (h3 : GK w 5 k3) : ∃ S : Str, reprD (.lst [k1.to, k2.to, k3.to]) = some (.str S) := by
  have one : ∀ {k : Kd}, GK w 5 k → Rp k.to 16 102400 := fun {k} g => (rp w k g.o g.p).mono (by have := g.d; omega) (by have := Nw_mono g.d; rw [Nw5] at this; exact this)
  have r := (Rps.cons (one h1) (Rps.cons (one h2) (Rps.cons (one h3) (Rps.nil (w := 0))))).lst
  generalize hx : D.lst [k1.to, k2.to, k3.to] = x at r
  have hl : PyData.layable0 x.py = true := by
    show (PyData.canLay0 x.py && decide (PyData.depth x.py ≤ 64) && decide (PyData.weight x.py ≤ 2 ^ 20)) = true
    have e : (2 : Nat) ^ 20 = 1048576 := by decide +kernel
    have hd := r.dep
    have hw := r.we
    rw [lay_py x r.lay, dep_py x r.lay, decide_eq_true (by omega), decide_eq_true (by rw [e]; omega)]; rfl
  have hz := PyData.shown_le_of_layable0 hl r.is
  refine ⟨x.py.shown, ?_⟩
  have hshp : x.shp = true := by
    show (x.lay && decide (x.dep ≤ 64)) = true
    rw [r.lay, decide_eq_true (by have := r.dep; omega)]; rfl
  have hq : x.isSeq = true := by subst hx; rfl
  unfold reprD
  rw [if_pos (by rw [hq, hshp, r.sh, decide_eq_true (show x.py.shown.length ≤ 16777216 by omega)]; rfl)]
section
variable {m : Nat} {h h1 h2 : Hh} {ρ ρ' : PV.Env} {x y z : D} {a b rest : Ss} {r : RS} {c : E}
theorem p_ {i j : Nat} {ea eb : E} (ha : (evE (F m) [] ea).v ρ h = .ok x h1) (hb : (evE (F m) [] eb).v ρ h1 = .ok y h2) (hr : evSs (F m) [] rest ((ρ.set i (some x)).set j (some y)) h2 = r) : evSs (F m) [] (.cons (.par i j ea eb) rest) ρ h = r := by
  show (((evE (F m) [] ea).v ρ h).then_ _).then_ _ = _
  rw [ha, R.then_ok, hb]; exact hr
theorem s_T (hc : (evE (F m) [] c).t ρ h = .ok true h) (ha : evSs (F m) [] a ρ h = .nxt ρ' h1) (hr : evSs (F m) [] rest ρ' h1 = r) : evSs (F m) [] (.cons (.ite c a b) rest) ρ h = r := by
  show (((evE (F m) [] c).t ρ h).then_ fun t h1 => if t then evSs (F m) [] a ρ h1 else evSs (F m) [] b ρ h1).then_ _ = _
  rw [hc]
  show (evSs (F m) [] a ρ h).then_ _ = _
  rw [ha]; exact hr
theorem s_F (hc : (evE (F m) [] c).t ρ h = .ok false h) (ha : evSs (F m) [] b ρ h = .nxt ρ' h1) (hr : evSs (F m) [] rest ρ' h1 = r) : evSs (F m) [] (.cons (.ite c a b) rest) ρ h = r := by
  show (((evE (F m) [] c).t ρ h).then_ fun t h1 => if t then evSs (F m) [] a ρ h1 else evSs (F m) [] b ρ h1).then_ _ = _
  rw [hc]
  show (evSs (F m) [] b ρ h).then_ _ = _
  rw [ha]; exact hr
theorem v_l3 {e1 e2 e3 : E} (h1 : (evE (F m) [] e1).v ρ h = .ok x h) (h2 : (evE (F m) [] e2).v ρ h = .ok y h) (h3 : (evE (F m) [] e3).v ρ h = .ok z h) : (evE (F m) [] (.lst (.cons e1 (.cons e2 (.cons e3 .nil))))).v ρ h = .ok (.lst [x, y, z]) h := by
  show (((evE (F m) [] e1).v ρ h).bind fun x h1 => (((evE (F m) [] e2).v ρ h1).bind fun x h1 => (((evE (F m) [] e3).v ρ h1).bind fun x h1 => R.bind (.ok [] h1) fun xs h2 => .ok (x :: xs) h2).bind fun xs h2 => .ok (x :: xs) h2).bind fun xs h2 => .ok (x :: xs) h2).bind _ = _
  rw [h1, R.bind_ok, h2, R.bind_ok, h3]; rfl
theorem v_repr {e : E} {S : Str} {xs : List D} (h1 : (evE (F m) [] e).v ρ h = .ok (.lst xs) h) (hr : reprD (.lst xs) = some (.str S)) : (evE (F m) [] (.bf .repr (.cons e .nil))).v ρ h = .ok (.str S) h := by
  show (((evE (F m) [] e).v ρ h).bind fun x h1 => R.bind (.ok [] h1) fun xs h2 => .ok (x :: xs) h2).bind _ = _
  rw [h1]
  show R.opt (reprD (.lst xs)) h = _
  rw [hr]; rfl
theorem vcallK1 {f : Nat} {e : E} {q : R D} (he : (evE (F m) [] e).v ρ h = .ok x h) (hq : C m f [x] h = q) : (evE (F m) [] (.callK f .nil (.cons e .nil) [0])).v ρ h = q := by
  show R.bind (.ok [] h) (fun xs h1 => (((evE (F m) [] e).v ρ h1).bind fun x h1 => R.bind (.ok [] h1) fun xs h2 => .ok (x :: xs) h2).bind fun ys h2 => F m f (pmD .non [0] xs ys) h2) = _
  rw [R.bind_ok, he]; exact hq
theorem tor2 {e1 e2 : E} (h1 : (evE (F m) [] e1).t ρ h = .ok false h) (h2 : (evE (F m) [] e2).t ρ h = .ok false h) : (evE (F m) [] (.or e1 (.cons e2 .nil))).t ρ h = .ok false h := by
  show ((evE (F m) [] e1).t ρ h).bind _ = _
  rw [h1]; exact h2
end
def td : Bool → Str
  | false => "stored"
  | true => "code"
set_option maxHeartbeats 1900000 in
theorem core_s {m d : Nat} {h h1 h2 h3 : Hh} {k1 k2 k3 f1 f2 f3 bo p du : D} {S : Str} (c1 : C m 13 [.ref 1, .str (wd false), .int 3, .int ((0 : Nat) : Int), .int ((d + 1 : Nat) : Int)] h = .ok k1 h1) (c2 : C m 13 [.ref 1, .str (wd false), .int 3, .int ((1 : Nat) : Int), .int (d : Int)] h1 = .ok k2 h2) (c3 : C m 13 [.ref 1, .str (wd false), .int 3, .int ((0 : Nat) : Int), .int ((2 : Nat) : Int)] h2 = .ok k3 h3)
    (hS : reprD (.lst [k1, k2, k3]) = some (.str S)) (e1 : C m 5 [k1] h3 = .ok f1 h3) (e2 : C m 5 [.tup [.str "some", k2]] h3 = .ok (.tup [.str "some", f2]) h3) (e3 : C m 5 [k3] h3 = .ok f3 h3) (op : C m 4 [.tup [.str "some", k2], .tup [k3]] h3 = .ok p h3) (eb : C m 5 [p] h3 = .ok bo h3)
    (l1 : C m 11 [k1] h3 = .ok f1 h3) (l2 : C m 11 [k2] h3 = .ok f2 h3) (l3 : C m 11 [k3] h3 = .ok f3 h3) (sm : C m 9 [.lst [f1, .tup [.str "some", f2], f3], .lst [f1, .tup [.str "some", f2], f3]] h3 = .ok (.bl true) h3)
    (pu : C m 10 [f2, .int 0, .tup [f3]] h3 = .ok du h3) (se : C m 9 [bo, du] h3 = .ok (.bl true) h3) : C (m + 1) 14 [.ref 1, .str (td false), .str (wd false), .int ((d + 1 : Nat) : Int)] h = .ok (.bl true) h3 := by
  have hS2 : opCmp .ne h3 (.str S) (.str S) = some false := by
    show (some (decide (S = S))).map (!·) = _
    rw [decide_eq_true rfl]; rfl
  refine c_ (fn := f__law_turned_right) rfl rfl rfl (a_ (vcall5 rfl rfl rfl rfl rfl c1) (p_ (vcall5 (d := .int ((1 : Nat) : Int)) rfl rfl rfl rfl (by rw [← dec_one d]; exact v_sub rfl rfl) c2) (vcall5 (d := .int ((0 : Nat) : Int)) (e := .int ((2 : Nat) : Int)) rfl rfl rfl rfl rfl c3) (a_ (v_repr (xs := [k1, k2, k3]) (v_l3 rfl rfl rfl) hS)
    (s_T (by kernel_rfl) (a_ (v_l3 (vcall1 rfl e1) (vcall1 (v_two (x := .str "some") rfl rfl) e2) (vcallK1 rfl e3)) (a_ (vcall1 (vcall2 (v_two (x := .str "some") rfl rfl) (y := .tup [k3]) rfl op) eb) rfl))
    (a_ (v_l3 (vcall1 rfl l1) (v_two (x := .str "some") rfl (vcall1 rfl l2)) (vcall1 rfl l3))
    (s_F (by kernel_rfl) rfl
    (i_f (tor2 (tnot2 (b := true) rfl rfl sm) (tcmp (x := .str S) (y := .str S) (v_repr (xs := [k1, k2, k3]) (v_l3 rfl rfl rfl) hS) rfl hS2))
    (r_ (vcall2 (x := bo) (by kernel_rfl) (vcall3 (x := f2) (y := .int 0) (z := .tup [f3]) (by kernel_rfl) (by kernel_rfl) (by kernel_rfl) pu) se)))))))))
set_option maxHeartbeats 1900000 in
theorem core_c {m d : Nat} {h h1 h2 h3 : Hh} {k1 k2 k3 f1 f2 f3 y1 y2 y3 bo p du : D} {S : Str} (c1 : C m 13 [.ref 1, .str (wd true), .int 3, .int ((0 : Nat) : Int), .int ((d + 1 : Nat) : Int)] h = .ok k1 h1) (c2 : C m 13 [.ref 1, .str (wd true), .int 3, .int ((1 : Nat) : Int), .int (d : Int)] h1 = .ok k2 h2) (c3 : C m 13 [.ref 1, .str (wd true), .int 3, .int ((0 : Nat) : Int), .int ((2 : Nat) : Int)] h2 = .ok k3 h3)
    (hS : reprD (.lst [k1, k2, k3]) = some (.str S)) (e1 : C m 6 [k1] h3 = .ok f1 h3) (e2 : C m 6 [.tup [.str "some", k2]] h3 = .ok (.tup [.str "some", f2]) h3) (e3 : C m 6 [k3] h3 = .ok f3 h3) (op : C m 4 [.tup [.str "some", k2], .tup [k3]] h3 = .ok p h3) (eb : C m 6 [p] h3 = .ok bo h3)
    (l1 : C m 11 [k1] h3 = .ok y1 h3) (l2 : C m 11 [k2] h3 = .ok y2 h3) (l3 : C m 11 [k3] h3 = .ok y3 h3) (n1 : C m 12 [k1] h3 = .ok f1 h3) (n2 : C m 12 [k2] h3 = .ok f2 h3) (n3 : C m 12 [k3] h3 = .ok f3 h3) (sm : C m 9 [.lst [f1, .tup [.str "some", f2], f3], .lst [f1, .tup [.str "some", f2], f3]] h3 = .ok (.bl true) h3)
    (pu : C m 10 [f2, .int 0, .tup [f3]] h3 = .ok du h3) (se : C m 9 [bo, du] h3 = .ok (.bl true) h3) : C (m + 1) 14 [.ref 1, .str (td true), .str (wd true), .int ((d + 1 : Nat) : Int)] h = .ok (.bl true) h3 := by
  have hS2 : opCmp .ne h3 (.str S) (.str S) = some false := by
    show (some (decide (S = S))).map (!·) = _
    rw [decide_eq_true rfl]; rfl
  refine c_ (fn := f__law_turned_right) rfl rfl rfl (a_ (vcall5 rfl rfl rfl rfl rfl c1) (p_ (vcall5 (d := .int ((1 : Nat) : Int)) rfl rfl rfl rfl (by rw [← dec_one d]; exact v_sub rfl rfl) c2) (vcall5 (d := .int ((0 : Nat) : Int)) (e := .int ((2 : Nat) : Int)) rfl rfl rfl rfl rfl c3) (a_ (v_repr (xs := [k1, k2, k3]) (v_l3 rfl rfl rfl) hS)
    (s_F (by kernel_rfl) (a_ (v_l3 (vcall1 rfl e1) (vcall1 (v_two (x := .str "some") rfl rfl) e2) (vcallK1 rfl e3)) (a_ (vcall1 (vcall2 (v_two (x := .str "some") rfl rfl) (y := .tup [k3]) rfl op) eb) rfl))
    (a_ (v_l3 (vcall1 rfl l1) (v_two (x := .str "some") rfl (vcall1 rfl l2)) (vcall1 rfl l3))
    (s_T (by kernel_rfl) (a_ (v_l3 (vcall1 rfl n1) (v_two (x := .str "some") rfl (vcall1 rfl n2)) (vcall1 rfl n3)) rfl)
    (i_f (tor2 (tnot2 (b := true) rfl rfl sm) (tcmp (x := .str S) (y := .str S) (v_repr (xs := [k1, k2, k3]) (v_l3 rfl rfl rfl) hS) rfl hS2))
    (r_ (vcall2 (x := bo) (by kernel_rfl) (vcall3 (x := f2) (y := .int 0) (z := .tup [f3]) (by kernel_rfl) (by kernel_rfl) (by kernel_rfl) pu) se)))))))))
/-- what the law compares at the end -/
theorem same_end {n : Nat} {h : Hh} {a : Kd} (hs : a.sm) (hd : a.dep ≤ 8) (hn : 30 ≤ n) : C (n + 1) 9 [a.to, a.to] h = .ok (.bl true) h :=
  same_ok h n a.to (pd_to a hs) (by have := dep_to a; omega)
theorem turned_ok (w : Bool) (d m : Nat) (s : Fl) (hd : 2 ≤ d) (hd2 : d ≤ 5) (hs : s.I (m + 3 * W 5)) : ∃ s' : Fl, C 42 14 [.ref 1, .str (td w), .str (wd w), .int d] s.hp = .ok (.bl true) s'.hp ∧ s'.I m := by
  obtain ⟨d, rfl⟩ : ∃ e, d = e + 1 := ⟨d - 1, by omega⟩
  have w1 : W (d + 1) ≤ W 5 := by have := Nat.pow_le_pow_right (show 0 < 4 by decide) hd2; unfold W; omega
  have w2 : W d ≤ W 5 := by have := Nat.pow_le_pow_right (show 0 < 4 by decide) (show d ≤ 5 by omega); unfold W; omega
  have w3 : W 2 ≤ W 5 := by decide +kernel
  obtain ⟨k1, s1, c1, g1, i1⟩ := kind_ok w (d + 1) 39 0 (m + 2 * W 5) s (by omega) (by omega) (hs.le (by omega))
  obtain ⟨k2, s2, c2, g2, i2⟩ := kind_ok w d 39 1 (m + W 5) s1 (by omega) (by omega) (i1.le (by omega))
  obtain ⟨k3, s3, c3, g3, i3⟩ := kind_ok w 2 39 0 m s2 (by omega) (by omega) (i2.le (by omega))
  refine ⟨s3, ?_, i3⟩
  have q1 : GK w 5 k1 := ⟨g1.o, g1.p, by have := g1.d; omega⟩
  have q2 : GK w 5 k2 := ⟨g2.o, g2.p, by have := g2.d; omega⟩
  have q3 : GK w 5 k3 := ⟨g3.o, g3.p, by have := g3.d; omega⟩
  obtain ⟨S, hS⟩ := repr_ok q1 q2 q3
  have m1 := o3_sm k1 g1.o
  have m2 := o3_sm k2 g2.o
  have m3 := o3_sm k3 g3.o
  have d1 := q1.d
  have d2 := q2.d
  have d3 := q3.d
  -- put in
  have mp : (k2.put [k3] 0).sm := put_sm [k3] (fun x hx => by rw [List.mem_singleton.mp hx]; exact m3) k2 0 m2
  have dp : (k2.put [k3] 0).dep ≤ 8 := by have := put_dep [k3] 2 (fun x hx => by rw [List.mem_singleton.mp hx]; exact g3.d) k2 0; have := g2.d; omega
  have op : C 41 4 [Kd.to (.un .som k2), .tup [k3.to]] s3.hp = .ok (k2.put [k3] 0).to s3.hp := opened_ok [k3] s3.hp k2 37 m2 (by omega)
  cases w with
  | false =>
    have e1 : C 41 5 [k1.to] s3.hp = .ok k1.sto.to s3.hp := sto_ok s3.hp k1 38 m1 (by omega)
    have e2 : C 41 5 [Kd.to (.un .som k2)] s3.hp = .ok (Kd.to (.un .som k2.sto)) s3.hp := sto_ok s3.hp (.un .som k2) 38 m2 (by show k2.dep + 1 ≤ 38; omega)
    have e3 : C 41 5 [k3.to] s3.hp = .ok k3.sto.to s3.hp := sto_ok s3.hp k3 38 m3 (by omega)
    have eb : C 41 5 [(k2.put [k3] 0).to] s3.hp = .ok (k2.put [k3] 0).sto.to s3.hp := sto_ok s3.hp _ 38 mp (by omega)
    have l1 : C 41 11 [k1.to] s3.hp = .ok k1.sto.to s3.hp := lsto_ok s3.hp k1 40 m1 g1.p (by omega)
    have l2 : C 41 11 [k2.to] s3.hp = .ok k2.sto.to s3.hp := lsto_ok s3.hp k2 40 m2 g2.p (by omega)
    have l3 : C 41 11 [k3.to] s3.hp = .ok k3.sto.to s3.hp := lsto_ok s3.hp k3 40 m3 g3.p (by omega)
    have pu : C 41 10 [k2.sto.to, .int ((0 : Nat) : Int), .tup ([k3.sto].map Kd.to)] s3.hp = .ok (k2.sto.put [k3.sto] 0).to s3.hp := lput_ok [k3.sto] s3.hp k2.sto 0 40 (sto_sm k2 m2) (by rw [sto_dep]; omega)
    have sm1 : C 41 9 [.lst [k1.sto.to, Kd.to (.un .som k2.sto), k3.sto.to], .lst [k1.sto.to, Kd.to (.un .som k2.sto), k3.sto.to]] s3.hp = .ok (.bl true) s3.hp := by
      refine same_ok s3.hp 40 _ ?_ ?_
      · show (pds [k1.sto.to, Kd.to (.un .som k2.sto), k3.sto.to] && _) = true
        simp only [pds, pd_to _ (sto_sm k1 m1), pd_to _ (show (Kd.un .som k2.sto).sm from sto_sm k2 m2), pd_to _ (sto_sm k3 m3), Bool.true_and]; rfl
      · have a1 := dep_to k1.sto
        have a2 := dep_to (.un .som k2.sto)
        have a3 := dep_to k3.sto
        rw [sto_dep] at a1 a3
        have b2 : Kd.dep (.un .som k2.sto) = k2.dep + 1 := by show k2.sto.dep + 1 = _; rw [sto_dep]
        show max k1.sto.to.dep (max (Kd.to (.un .som k2.sto)).dep (max k3.sto.to.dep 0)) + 1 ≤ 40
        omega
    have se : C 41 9 [(k2.put [k3] 0).sto.to, (k2.sto.put [k3.sto] 0).to] s3.hp = .ok (.bl true) s3.hp := by
      rw [show k2.sto.put [k3.sto] 0 = (k2.put [k3] 0).sto from (sto_put [k3] k2 0).symm]
      exact same_end (sto_sm _ mp) (by rw [sto_dep]; exact dp) (by omega)
    exact core_s c1 c2 c3 hS e1 e2 e3 op eb l1 l2 l3 sm1 pu se
  | true =>
    have e1 : C 41 6 [k1.to] s3.hp = .ok k1.cod.to s3.hp := cod_ok s3.hp k1 38 m1 (by omega)
    have e2 : C 41 6 [Kd.to (.un .som k2)] s3.hp = .ok (Kd.to (.un .som k2.cod)) s3.hp := cod_ok s3.hp (.un .som k2) 38 m2 (by show k2.dep + 1 ≤ 38; omega)
    have e3 : C 41 6 [k3.to] s3.hp = .ok k3.cod.to s3.hp := cod_ok s3.hp k3 38 m3 (by omega)
    have eb : C 41 6 [(k2.put [k3] 0).to] s3.hp = .ok (k2.put [k3] 0).cod.to s3.hp := cod_ok s3.hp _ 38 mp (by omega)
    obtain ⟨y1, l1⟩ := lst_ex s3.hp k1 40 m1 g1.p (by omega)
    obtain ⟨y2, l2⟩ := lst_ex s3.hp k2 40 m2 g2.p (by omega)
    obtain ⟨y3, l3⟩ := lst_ex s3.hp k3 40 m3 g3.p (by omega)
    have n1 : C 41 12 [k1.to] s3.hp = .ok k1.cod.to s3.hp := lcod_ok s3.hp k1 40 m1 g1.p (by omega)
    have n2 : C 41 12 [k2.to] s3.hp = .ok k2.cod.to s3.hp := lcod_ok s3.hp k2 40 m2 g2.p (by omega)
    have n3 : C 41 12 [k3.to] s3.hp = .ok k3.cod.to s3.hp := lcod_ok s3.hp k3 40 m3 g3.p (by omega)
    have pu : C 41 10 [k2.cod.to, .int ((0 : Nat) : Int), .tup ([k3.cod].map Kd.to)] s3.hp = .ok (k2.cod.put [k3.cod] 0).to s3.hp := lput_ok [k3.cod] s3.hp k2.cod 0 40 (cod_sm k2 m2) (by rw [cod_dep]; omega)
    have sm1 : C 41 9 [.lst [k1.cod.to, Kd.to (.un .som k2.cod), k3.cod.to], .lst [k1.cod.to, Kd.to (.un .som k2.cod), k3.cod.to]] s3.hp = .ok (.bl true) s3.hp := by
      refine same_ok s3.hp 40 _ ?_ ?_
      · show (pds [k1.cod.to, Kd.to (.un .som k2.cod), k3.cod.to] && _) = true
        simp only [pds, pd_to _ (cod_sm k1 m1), pd_to _ (show (Kd.un .som k2.cod).sm from cod_sm k2 m2), pd_to _ (cod_sm k3 m3), Bool.true_and]; rfl
      · have a1 := dep_to k1.cod
        have a2 := dep_to (.un .som k2.cod)
        have a3 := dep_to k3.cod
        rw [cod_dep] at a1 a3
        have b2 : Kd.dep (.un .som k2.cod) = k2.dep + 1 := by show k2.cod.dep + 1 = _; rw [cod_dep]
        show max k1.cod.to.dep (max (Kd.to (.un .som k2.cod)).dep (max k3.cod.to.dep 0)) + 1 ≤ 40
        omega
    have se : C 41 9 [(k2.put [k3] 0).cod.to, (k2.cod.put [k3.cod] 0).to] s3.hp = .ok (.bl true) s3.hp := by
      rw [show k2.cod.put [k3.cod] 0 = (k2.put [k3] 0).cod from (cod_put [k3] k2 0).symm]
      exact same_end (cod_sm _ mp) (by rw [cod_dep]; exact dp) (by omega)
    exact core_c c1 c2 c3 hS e1 e2 e3 op eb l1 l2 l3 n1 n2 n3 sm1 pu se
end K44
end

section
set_option maxRecDepth 100000
namespace K44
open PySem PV
section
variable {m : Nat} {h h1 h2 : Hh} {ρ : PV.Env} {x : D} {rest a : Ss} {r : RS} {c : E}
theorem i_f' (hc : (evE (F m) [] c).t ρ h = .ok false h1) (hr : evSs (F m) [] rest ρ h1 = r) : evSs (F m) [] (.cons (.ite c a .nil) rest) ρ h = r := by
  show (((evE (F m) [] c).t ρ h).then_ fun t h1 => if t then evSs (F m) [] a ρ h1 else evSs (F m) [] .nil ρ h1).then_ _ = _
  rw [hc]; exact hr
theorem vcall4 {f : Nat} {e1 e2 e3 e4 : E} {a b c d : D} {q : R D} (h1 : (evE (F m) [] e1).v ρ h = .ok a h) (h2 : (evE (F m) [] e2).v ρ h = .ok b h) (h3 : (evE (F m) [] e3).v ρ h = .ok c h) (h4 : (evE (F m) [] e4).v ρ h = .ok d h) (hq : C m f [a, b, c, d] h = q) :
    (evE (F m) [] (.call f (.cons e1 (.cons e2 (.cons e3 (.cons e4 .nil)))))).v ρ h = q := by
  show (((evE (F m) [] e1).v ρ h).bind fun x h1 => (((evE (F m) [] e2).v ρ h1).bind fun x h1 => (((evE (F m) [] e3).v ρ h1).bind fun x h1 => (((evE (F m) [] e4).v ρ h1).bind fun x h1 => R.bind (.ok [] h1) fun xs h2 => .ok (x :: xs) h2).bind fun xs h2 => .ok (x :: xs) h2).bind fun xs h2 => .ok (x :: xs) h2).bind fun xs h2 => .ok (x :: xs) h2).bind _ = _
  rw [h1, R.bind_ok, h2, R.bind_ok, h3, R.bind_ok, h4]; exact hq
theorem tnot {f : Nat} {es : Es} (hv : (evE (F m) [] (.call f es)).v ρ h = .ok (.bl true) h1) : (evE (F m) [] (.not (.call f es))).t ρ h = .ok false h1 := by
  show R.bind (R.bind ((evE (F m) [] (.call f es)).v ρ h) fun x h1 => R.opt (x.tru h1) h1) _ = _
  rw [hv]; rfl
end
def b_turn : Ss := match b_law with
  | .cons _ (.cons (.for_ _ _ b) _) => b
  | _ => .nil
theorem turn_ok {m : Nat} (hD : ∀ (j : Nat) (s : Fl), s.I (j + 1) → ∃ (v : Int) (s' : Fl), C m 8 [.ref 1, .int 4] s.hp = .ok (.int v) s'.hp ∧ 0 ≤ v ∧ v < 4 ∧ s'.I j)
    (hT : ∀ (w : Bool) (d j : Nat) (s : Fl), 2 ≤ d → d ≤ 5 → s.I (j + 3 * W 5) → ∃ s' : Fl, C m 14 [.ref 1, .str (td w), .str (wd w), .int d] s.hp = .ok (.bl true) s'.hp ∧ s'.I j)
    (j : Nat) (s : Fl) (r0 r2 r3 : Option D) (hs : s.I (j + (1 + 6 * W 5))) : ∃ (s' : Fl) (q2 q3 : Option D), evSs (F m) [] b_turn [r0, some (.ref 1), r2, r3] s.hp = .nxt [r0, some (.ref 1), q2, q3] s'.hp ∧ s'.I j := by
  obtain ⟨v, s1, hd, h0, h1, hs1⟩ := hD (j + 6 * W 5) s (hs.le (by omega))
  obtain ⟨v, rfl, hv⟩ := small_nat h0 (n := 4) h1
  obtain ⟨s2, t1, hs2⟩ := hT false (2 + v) (j + 3 * W 5) s1 (by omega) (by omega) (hs1.le (by omega))
  obtain ⟨s3, t2, hs3⟩ := hT true (2 + v) j s2 (by omega) (by omega) hs2
  refine ⟨s3, r2, some (.int ((2 + v : Nat) : Int)), ?_, hs3⟩
  refine a_ (v_add' (i := 2) (j := (v : Int)) rfl (vcall2 rfl rfl hd)) (i_f' (tnot (vcall4 rfl rfl rfl rfl t1)) (i_f' (tnot (vcall4 rfl rfl rfl rfl t2)) rfl))
theorem loop_ok {m : Nat} (hB : ∀ (j : Nat) (s : Fl) (r0 r2 r3 : Option D), s.I (j + (1 + 6 * W 5)) → ∃ (s' : Fl) (q2 q3 : Option D), evSs (F m) [] b_turn [r0, some (.ref 1), r2, r3] s.hp = .nxt [r0, some (.ref 1), q2, q3] s'.hp ∧ s'.I j) :
    ∀ (xs : List D) (j : Nat) (s : Fl) (r0 r2 r3 : Option D), s.I (j + xs.length * (1 + 6 * W 5)) → ∃ (s' : Fl) (q2 q3 : Option D), forLoop (fun _ => true) (.v 2) (evSs (F m) [] b_turn) xs [r0, some (.ref 1), r2, r3] s.hp = .nxt [r0, some (.ref 1), q2, q3] s'.hp ∧ s'.I j
  | [], j, s, r0, r2, r3, hs => ⟨s, r2, r3, by unfold forLoop; rfl, hs.le (by omega)⟩
  | x :: xs, j, s, r0, r2, r3, hs => by
    have e : (x :: xs).length * (1 + 6 * W 5) = xs.length * (1 + 6 * W 5) + (1 + 6 * W 5) := by rw [List.length_cons, Nat.add_mul, Nat.one_mul]
    rw [e, ← Nat.add_assoc] at hs
    obtain ⟨s1, q2, q3, e1, hs1⟩ := hB (j + xs.length * (1 + 6 * W 5)) s r0 (some x) r3 hs
    obtain ⟨s2, p2, p3, e2, hs2⟩ := loop_ok hB xs j s1 r0 q2 q3 hs1
    refine ⟨s2, p2, p3, ?_, hs2⟩
    unfold forLoop
    rw [if_pos rfl]
    show (match evSs (F m) [] b_turn [r0, some (.ref 1), some x, r3] s.hp with
        | .nxt ρ' h' => forLoop (fun _ => true) (.v 2) (evSs (F m) [] b_turn) xs ρ' h'
        | .cnt ρ' h' => forLoop (fun _ => true) (.v 2) (evSs (F m) [] b_turn) xs ρ' h'
        | .brk ρ' h' => RS.nxt ρ' h'
        | r => r) = _
    rw [e1]
    exact e2
theorem W5 : W 5 = 8192 := by decide +kernel
theorem flow_ok (n : Nat) (ns : List Int) : C (n + 1) 7 [.fz (ns.map D.int)] [] = .ok (.ref 1) (Fl.hp ⟨ns, 0, 11, 0⟩) := by kernel_rfl
theorem law_core {m : Nat} (hF : ∀ ns : List Int, C m 7 [.fz (ns.map D.int)] [] = .ok (.ref 1) (Fl.hp ⟨ns, 0, 11, 0⟩))
    (hL : ∀ (xs : List D) (j : Nat) (s : Fl) (r0 r2 r3 : Option D), s.I (j + xs.length * (1 + 6 * W 5)) → ∃ (s' : Fl) (q2 q3 : Option D), forLoop (fun _ => true) (.v 2) (evSs (F m) [] b_turn) xs [r0, some (.ref 1), r2, r3] s.hp = .nxt [r0, some (.ref 1), q2, q3] s'.hp ∧ s'.I j) (ns : List Int) :
    ∃ h, C (m + 1) 15 [.fz (ns.map D.int)] [] = .ok (.bl true) h := by
  have hcount : ∃ c : Nat, c ≤ 16 ∧ (evE (F m) [] (.bin .add (.con (.int 6)) (.bf .min2 (.cons (.con (.int 10)) (.cons (.bf .len (.cons (.var 0) .nil)) .nil))))).v [some (.fz (ns.map D.int)), some (.ref 1), none, none] (Fl.hp ⟨ns, 0, 11, 0⟩) = .ok (.int (c : Int)) (Fl.hp ⟨ns, 0, 11, 0⟩) := by
    have e : (evE (F m) [] (.bf .min2 (.cons (.con (.int 10)) (.cons (.bf .len (.cons (.var 0) .nil)) .nil)))).v [some (.fz (ns.map D.int)), some (.ref 1), none, none] (Fl.hp ⟨ns, 0, 11, 0⟩) = .ok (.int (if ((ns.map D.int).length : Int) < 10 then ((ns.map D.int).length : Int) else 10)) (Fl.hp ⟨ns, 0, 11, 0⟩) := by kernel_rfl
    by_cases hl : (ns.map D.int).length < 10
    · rw [if_pos (by omega)] at e
      exact ⟨6 + (ns.map D.int).length, by omega, v_add (i := 6) (j := ((ns.map D.int).length : Int)) rfl e⟩
    · rw [if_neg (by omega)] at e
      exact ⟨16, by omega, v_add (i := 6) (j := 10) rfl e⟩
  obtain ⟨c, hc, hv⟩ := hcount
  obtain ⟨s', q2, q3, e, _⟩ := hL (rngD 0 (c : Int)) 0 ⟨ns, 0, 11, 0⟩ (some (.fz (ns.map D.int))) none none (by
    rw [rngD_len, W5]
    refine ⟨Int.le_refl _, Int.le_refl _, ?_⟩
    show (0 : Int) + ((0 + c * (1 + 6 * 8192) : Nat) : Int) ≤ _
    omega)
  refine ⟨s'.hp, c_ (fn := f_law) rfl rfl rfl (a_ (h1 := Fl.hp ⟨ns, 0, 11, 0⟩) (x := .ref 1) (vcall1 rfl (hF ns)) ?_)⟩
  show ((evI (F m) [] (.rng (.bin .add (.con (.int 6)) (.bf .min2 (.cons (.con (.int 10)) (.cons (.bf .len (.cons (.var 0) .nil)) .nil))))) [some (.fz (ns.map D.int)), some (.ref 1), none, none] (Fl.hp ⟨ns, 0, 11, 0⟩)).then_ fun s h1 => forLoop s.good (.v 2) (evSs (F m) [] b_turn) s.items [some (.fz (ns.map D.int)), some (.ref 1), none, none] h1).then_ _ = _
  rw [it_rng' (by omega) hv, R.then_ok]
  show (forLoop (fun _ => true) (.v 2) (evSs (F m) [] b_turn) (rngD 0 (c : Int)) [some (.fz (ns.map D.int)), some (.ref 1), none, none] (Fl.hp ⟨ns, 0, 11, 0⟩)).then_ _ = _
  rw [e]; rfl
/-- the law, by the evaluator -/
theorem law_ev (ns : List Int) : ∃ h, callN T [] 43 15 [.fz (ns.map D.int)] [] = .ok (.bl true) h :=
  law_core (m := 42) (flow_ok 41) (loop_ok (turn_ok (m := 42) (fun j s hs => draw_ok 41 hs (by decide) (by decide)) (fun w d j s h1 h2 h3 => turned_ok w d j s h1 h2 h3))) ns
end K44
end

section
set_option maxRecDepth 100000
set_option maxHeartbeats 0
namespace K44
open PySem PySem.Spec PyProof.Rows L2 PV
def d_insides : He.DefD := ⟨("insides", none), "insides", "insides", defArgs (top 1), defBody (top 1), defScope (top 1), [], []⟩
def d_binds : He.DefD := ⟨("binds", none), "binds", "binds", defArgs (top 2), defBody (top 2), defScope (top 2), [], []⟩
def d_with_insides : He.DefD := ⟨("with_insides", none), "with_insides", "with_insides", defArgs (top 3), defBody (top 3), defScope (top 3), [], []⟩
def d_put_below : He.DefD := ⟨("put_below", none), "put_below", "put_below", defArgs (top 4), defBody (top 4), defScope (top 4), [], []⟩
def d_opened : He.DefD := ⟨("opened", none), "opened", "opened", defArgs (top 5), defBody (top 5), defScope (top 5), [], []⟩
def d_stored_kind_of : He.DefD := ⟨("stored_kind_of", none), "stored_kind_of", "stored_kind_of", defArgs (top 7), defBody (top 7), defScope (top 7), [], []⟩
def d_code_kind_of : He.DefD := ⟨("code_kind_of", none), "code_kind_of", "code_kind_of", defArgs (top 9), defBody (top 9), defScope (top 9), [], []⟩
def d__law_flow : He.DefD := ⟨("_law_flow", none), "_law_flow", "_law_flow", defArgs (top 11), defBody (top 11), defScope (top 11), [], []⟩
def d__law_draw : He.DefD := ⟨("_law_draw", none), "_law_draw", "_law_draw", defArgs (top 12), defBody (top 12), defScope (top 12), [], []⟩
def d__law_same : He.DefD := ⟨("_law_same", none), "_law_same", "_law_same", defArgs (top 13), defBody (top 13), defScope (top 13), [], []⟩
def d__law_put : He.DefD := ⟨("_law_put", none), "_law_put", "_law_put", defArgs (top 14), defBody (top 14), defScope (top 14), [], []⟩
def d__law_stored : He.DefD := ⟨("_law_stored", none), "_law_stored", "_law_stored", defArgs (top 15), defBody (top 15), defScope (top 15), [], []⟩
def d__law_of_code : He.DefD := ⟨("_law_of_code", none), "_law_of_code", "_law_of_code", defArgs (top 16), defBody (top 16), defScope (top 16), [], []⟩
def d__law_kind : He.DefD := ⟨("_law_kind", none), "_law_kind", "_law_kind", defArgs (top 17), defBody (top 17), defScope (top 17), [], []⟩
def d__law_turned_right : He.DefD := ⟨("_law_turned_right", none), "_law_turned_right", "_law_turned_right", defArgs (top 18), defBody (top 18), defScope (top 18), [], []⟩
def d_law : He.DefD := ⟨("law", none), "law", "law", defArgs (top 19), defBody (top 19), defScope (top 19), [], []⟩
def fn : List He.DefD := [d_insides, d_binds, d_with_insides, d_put_below, d_opened, d_stored_kind_of, d_code_kind_of, d__law_flow, d__law_draw, d__law_same, d__law_put, d__law_stored, d__law_of_code, d__law_kind, d__law_turned_right, d_law]
def fa : List He.Fa := [.glo "insides", .glo "binds", .glo "with_insides", .glo "put_below", .glo "opened", .glo "stored_kind_of", .glo "code_kind_of", .glo "_law_flow", .glo "_law_draw", .glo "_law_same", .glo "_law_put", .glo "_law_stored", .glo "_law_of_code", .glo "_law_kind", .glo "_law_turned_right", .glo "law", .free "abs", .free "bool", .free "enumerate", .free "int", .free "isinstance", .free "len", .free "list", .free "max", .free "min", .free "range", .free "repr", .free "str", .free "tuple", .free "zip"]
abbrev R0 : PySem.W.OpenRow := PySem.W.OpenLaw.row PySem.Challenge.rw_kindscarried_k44_kinds_stored_and_of_cod
abbrev hkD : PySem.W.Hook := He.hookD 4 fa fn
def obD (s : PySem.W.SharedT) : He.AlD := He.obsDG 4 fa fn (HandSHeadRun.getT s)
theorem obD_eq (s : PySem.W.SharedT) : obD s = hkD.obs s.abs := He.obsDG_eq (HandSHeadRun.getT_eq s)
def loose : List PySem.Str := ["insides", "binds", "with_insides", "put_below", "opened", "stored_kind_of", "code_kind_of", "_law_flow", "_law_draw", "_law_same", "_law_put", "_law_stored", "_law_of_code", "_law_kind", "_law_turned_right"]
theorem run (w : World) : HandSHeadRun.RunEq R0 (PySem.W.view R0.prog [19]) hkD obD 3000 loose w := by
  intro os
  kernel_rfl
end K44
end

section
set_option maxRecDepth 100000
set_option maxHeartbeats 0
namespace K44
open PySem PySem.Spec PyProof.Rows L2 PV
section
variable {h : Heap} {K : PySem.W.Frag} {mg : Str → Option Value}
theorem def_insides (X : K.In h) (G : h.Ns mainGlobals mg) (c : He.SaysD fa fn K) : DefOk K mg bs gn T f_insides (defArgs (top 1)) (defBody (top 1)) (defScope (top 1)) := by
  obtain ⟨fd, fu⟩ := c.def_ 0 (d := d_insides) rfl
  refine ⟨sc_insides, ok_insides, _, fd, fu, He.glo_ok X G (c.fact 0 (f := .glo "insides") rfl), FunD.bindsN fu fun _ _ _ _ _ _ us hl => match us, hl with | [_], _ => rfl, fun q hq => ?_⟩
  exact absurd hq List.not_mem_nil
theorem def_binds (X : K.In h) (G : h.Ns mainGlobals mg) (c : He.SaysD fa fn K) : DefOk K mg bs gn T f_binds (defArgs (top 2)) (defBody (top 2)) (defScope (top 2)) := by
  obtain ⟨fd, fu⟩ := c.def_ 1 (d := d_binds) rfl
  refine ⟨sc_binds, ok_binds, _, fd, fu, He.glo_ok X G (c.fact 1 (f := .glo "binds") rfl), FunD.bindsN fu fun _ _ _ _ _ _ us hl => match us, hl with | [_], _ => rfl, fun q hq => ?_⟩
  exact absurd hq List.not_mem_nil
theorem def_with_insides (X : K.In h) (G : h.Ns mainGlobals mg) (c : He.SaysD fa fn K) : DefOk K mg bs gn T f_with_insides (defArgs (top 3)) (defBody (top 3)) (defScope (top 3)) := by
  obtain ⟨fd, fu⟩ := c.def_ 2 (d := d_with_insides) rfl
  refine ⟨sc_with_insides, ok_with_insides, _, fd, fu, He.glo_ok X G (c.fact 2 (f := .glo "with_insides") rfl), FunD.bindsN fu fun _ _ _ _ _ _ us hl => match us, hl with | [_, _], _ => rfl, fun q hq => ?_⟩
  exact absurd hq List.not_mem_nil
theorem def_put_below (X : K.In h) (G : h.Ns mainGlobals mg) (c : He.SaysD fa fn K) : DefOk K mg bs gn T f_put_below (defArgs (top 4)) (defBody (top 4)) (defScope (top 4)) := by
  obtain ⟨fd, fu⟩ := c.def_ 3 (d := d_put_below) rfl
  refine ⟨sc_put_below, ok_put_below, _, fd, fu, He.glo_ok X G (c.fact 3 (f := .glo "put_below") rfl), FunD.bindsN fu fun _ _ _ _ _ _ us hl => match us, hl with | [_, _, _], _ => rfl, fun q hq => ?_⟩
  exact absurd hq List.not_mem_nil
theorem def_opened (X : K.In h) (G : h.Ns mainGlobals mg) (c : He.SaysD fa fn K) : DefOk K mg bs gn T f_opened (defArgs (top 5)) (defBody (top 5)) (defScope (top 5)) := by
  obtain ⟨fd, fu⟩ := c.def_ 4 (d := d_opened) rfl
  refine ⟨sc_opened, ok_opened, _, fd, fu, He.glo_ok X G (c.fact 4 (f := .glo "opened") rfl), FunD.bindsN fu fun _ _ _ _ _ _ us hl => match us, hl with | [_, _], _ => rfl, fun q hq => ?_⟩
  exact absurd hq List.not_mem_nil
theorem def_stored_kind_of (X : K.In h) (G : h.Ns mainGlobals mg) (c : He.SaysD fa fn K) : DefOk K mg bs gn T f_stored_kind_of (defArgs (top 7)) (defBody (top 7)) (defScope (top 7)) := by
  obtain ⟨fd, fu⟩ := c.def_ 5 (d := d_stored_kind_of) rfl
  refine ⟨sc_stored_kind_of, ok_stored_kind_of, _, fd, fu, He.glo_ok X G (c.fact 5 (f := .glo "stored_kind_of") rfl), FunD.bindsN fu fun _ _ _ _ _ _ us hl => match us, hl with | [_], _ => rfl, fun q hq => ?_⟩
  have hq : q ∈ [((0 : Nat), (["kind"] : List Str), ([0] : List Nat))] := hq
  have e := List.mem_singleton.mp hq
  subst e
  exact kw_mk fu rfl fun _ _ _ _ _ _ us ws h1 h2 => match us, ws, h1, h2 with | [], [_], _, _ => rfl
theorem def_code_kind_of (X : K.In h) (G : h.Ns mainGlobals mg) (c : He.SaysD fa fn K) : DefOk K mg bs gn T f_code_kind_of (defArgs (top 9)) (defBody (top 9)) (defScope (top 9)) := by
  obtain ⟨fd, fu⟩ := c.def_ 6 (d := d_code_kind_of) rfl
  refine ⟨sc_code_kind_of, ok_code_kind_of, _, fd, fu, He.glo_ok X G (c.fact 6 (f := .glo "code_kind_of") rfl), FunD.bindsN fu fun _ _ _ _ _ _ us hl => match us, hl with | [_], _ => rfl, fun q hq => ?_⟩
  have hq : q ∈ [((0 : Nat), (["kind"] : List Str), ([0] : List Nat))] := hq
  have e := List.mem_singleton.mp hq
  subst e
  exact kw_mk fu rfl fun _ _ _ _ _ _ us ws h1 h2 => match us, ws, h1, h2 with | [], [_], _, _ => rfl
theorem def__law_flow (X : K.In h) (G : h.Ns mainGlobals mg) (c : He.SaysD fa fn K) : DefOk K mg bs gn T f__law_flow (defArgs (top 11)) (defBody (top 11)) (defScope (top 11)) := by
  obtain ⟨fd, fu⟩ := c.def_ 7 (d := d__law_flow) rfl
  refine ⟨sc__law_flow, ok__law_flow, _, fd, fu, He.glo_ok X G (c.fact 7 (f := .glo "_law_flow") rfl), FunD.bindsN fu fun _ _ _ _ _ _ us hl => match us, hl with | [_], _ => rfl, fun q hq => ?_⟩
  exact absurd hq List.not_mem_nil
theorem def__law_draw (X : K.In h) (G : h.Ns mainGlobals mg) (c : He.SaysD fa fn K) : DefOk K mg bs gn T f__law_draw (defArgs (top 12)) (defBody (top 12)) (defScope (top 12)) := by
  obtain ⟨fd, fu⟩ := c.def_ 8 (d := d__law_draw) rfl
  refine ⟨sc__law_draw, ok__law_draw, _, fd, fu, He.glo_ok X G (c.fact 8 (f := .glo "_law_draw") rfl), FunD.bindsN fu fun _ _ _ _ _ _ us hl => match us, hl with | [_, _], _ => rfl, fun q hq => ?_⟩
  exact absurd hq List.not_mem_nil
theorem def__law_same (X : K.In h) (G : h.Ns mainGlobals mg) (c : He.SaysD fa fn K) : DefOk K mg bs gn T f__law_same (defArgs (top 13)) (defBody (top 13)) (defScope (top 13)) := by
  obtain ⟨fd, fu⟩ := c.def_ 9 (d := d__law_same) rfl
  refine ⟨sc__law_same, ok__law_same, _, fd, fu, He.glo_ok X G (c.fact 9 (f := .glo "_law_same") rfl), FunD.bindsN fu fun _ _ _ _ _ _ us hl => match us, hl with | [_, _], _ => rfl, fun q hq => ?_⟩
  exact absurd hq List.not_mem_nil
theorem def__law_put (X : K.In h) (G : h.Ns mainGlobals mg) (c : He.SaysD fa fn K) : DefOk K mg bs gn T f__law_put (defArgs (top 14)) (defBody (top 14)) (defScope (top 14)) := by
  obtain ⟨fd, fu⟩ := c.def_ 10 (d := d__law_put) rfl
  refine ⟨sc__law_put, ok__law_put, _, fd, fu, He.glo_ok X G (c.fact 10 (f := .glo "_law_put") rfl), FunD.bindsN fu fun _ _ _ _ _ _ us hl => match us, hl with | [_, _, _], _ => rfl, fun q hq => ?_⟩
  exact absurd hq List.not_mem_nil
theorem def__law_stored (X : K.In h) (G : h.Ns mainGlobals mg) (c : He.SaysD fa fn K) : DefOk K mg bs gn T f__law_stored (defArgs (top 15)) (defBody (top 15)) (defScope (top 15)) := by
  obtain ⟨fd, fu⟩ := c.def_ 11 (d := d__law_stored) rfl
  refine ⟨sc__law_stored, ok__law_stored, _, fd, fu, He.glo_ok X G (c.fact 11 (f := .glo "_law_stored") rfl), FunD.bindsN fu fun _ _ _ _ _ _ us hl => match us, hl with | [_], _ => rfl, fun q hq => ?_⟩
  exact absurd hq List.not_mem_nil
theorem def__law_of_code (X : K.In h) (G : h.Ns mainGlobals mg) (c : He.SaysD fa fn K) : DefOk K mg bs gn T f__law_of_code (defArgs (top 16)) (defBody (top 16)) (defScope (top 16)) := by
  obtain ⟨fd, fu⟩ := c.def_ 12 (d := d__law_of_code) rfl
  refine ⟨sc__law_of_code, ok__law_of_code, _, fd, fu, He.glo_ok X G (c.fact 12 (f := .glo "_law_of_code") rfl), FunD.bindsN fu fun _ _ _ _ _ _ us hl => match us, hl with | [_], _ => rfl, fun q hq => ?_⟩
  exact absurd hq List.not_mem_nil
theorem def__law_kind (X : K.In h) (G : h.Ns mainGlobals mg) (c : He.SaysD fa fn K) : DefOk K mg bs gn T f__law_kind (defArgs (top 17)) (defBody (top 17)) (defScope (top 17)) := by
  obtain ⟨fd, fu⟩ := c.def_ 13 (d := d__law_kind) rfl
  refine ⟨sc__law_kind, ok__law_kind, _, fd, fu, He.glo_ok X G (c.fact 13 (f := .glo "_law_kind") rfl), FunD.bindsN fu fun _ _ _ _ _ _ us hl => match us, hl with | [_, _, _, _, _], _ => rfl, fun q hq => ?_⟩
  exact absurd hq List.not_mem_nil
theorem def__law_turned_right (X : K.In h) (G : h.Ns mainGlobals mg) (c : He.SaysD fa fn K) : DefOk K mg bs gn T f__law_turned_right (defArgs (top 18)) (defBody (top 18)) (defScope (top 18)) := by
  obtain ⟨fd, fu⟩ := c.def_ 14 (d := d__law_turned_right) rfl
  refine ⟨sc__law_turned_right, ok__law_turned_right, _, fd, fu, He.glo_ok X G (c.fact 14 (f := .glo "_law_turned_right") rfl), FunD.bindsN fu fun _ _ _ _ _ _ us hl => match us, hl with | [_, _, _, _], _ => rfl, fun q hq => ?_⟩
  exact absurd hq List.not_mem_nil
theorem def_law (X : K.In h) (G : h.Ns mainGlobals mg) (c : He.SaysD fa fn K) : DefOk K mg bs gn T f_law (defArgs (top 19)) (defBody (top 19)) (defScope (top 19)) := by
  obtain ⟨fd, fu⟩ := c.def_ 15 (d := d_law) rfl
  refine ⟨sc_law, ok_law, _, fd, fu, He.glo_ok X G (c.fact 15 (f := .glo "law") rfl), FunD.bindsN fu fun _ _ _ _ _ _ us hl => match us, hl with | [_], _ => rfl, fun q hq => ?_⟩
  exact absurd hq List.not_mem_nil
theorem tab (X : K.In h) (G : h.Ns mainGlobals mg) (c : He.SaysD fa fn K) : ∀ (f : Nat) (fn : Fn), T[f]? = some fn → ∃ params body scope, DefOk K mg bs gn T fn params body scope
  | 0, _, e => by obtain rfl := Option.some.inj e; exact ⟨_, _, _, def_insides X G c⟩
  | 1, _, e => by obtain rfl := Option.some.inj e; exact ⟨_, _, _, def_binds X G c⟩
  | 2, _, e => by obtain rfl := Option.some.inj e; exact ⟨_, _, _, def_with_insides X G c⟩
  | 3, _, e => by obtain rfl := Option.some.inj e; exact ⟨_, _, _, def_put_below X G c⟩
  | 4, _, e => by obtain rfl := Option.some.inj e; exact ⟨_, _, _, def_opened X G c⟩
  | 5, _, e => by obtain rfl := Option.some.inj e; exact ⟨_, _, _, def_stored_kind_of X G c⟩
  | 6, _, e => by obtain rfl := Option.some.inj e; exact ⟨_, _, _, def_code_kind_of X G c⟩
  | 7, _, e => by obtain rfl := Option.some.inj e; exact ⟨_, _, _, def__law_flow X G c⟩
  | 8, _, e => by obtain rfl := Option.some.inj e; exact ⟨_, _, _, def__law_draw X G c⟩
  | 9, _, e => by obtain rfl := Option.some.inj e; exact ⟨_, _, _, def__law_same X G c⟩
  | 10, _, e => by obtain rfl := Option.some.inj e; exact ⟨_, _, _, def__law_put X G c⟩
  | 11, _, e => by obtain rfl := Option.some.inj e; exact ⟨_, _, _, def__law_stored X G c⟩
  | 12, _, e => by obtain rfl := Option.some.inj e; exact ⟨_, _, _, def__law_of_code X G c⟩
  | 13, _, e => by obtain rfl := Option.some.inj e; exact ⟨_, _, _, def__law_kind X G c⟩
  | 14, _, e => by obtain rfl := Option.some.inj e; exact ⟨_, _, _, def__law_turned_right X G c⟩
  | 15, _, e => by obtain rfl := Option.some.inj e; exact ⟨_, _, _, def_law X G c⟩
  | _ + 16, _, e => by cases e
theorem free (X : K.In h) (G : h.Ns mainGlobals mg) (c : He.SaysD fa fn K) : ∀ x ∈ bs, mg x = none := by
  intro x hx
  simp only [bs, List.mem_cons, List.not_mem_nil, or_false] at hx
  rcases hx with rfl | rfl | rfl | rfl | rfl | rfl | rfl | rfl | rfl | rfl | rfl | rfl | rfl | rfl
  · exact He.free_ok X G (c.fact 16 (f := .free "abs") rfl)
  · exact He.free_ok X G (c.fact 17 (f := .free "bool") rfl)
  · exact He.free_ok X G (c.fact 18 (f := .free "enumerate") rfl)
  · exact He.free_ok X G (c.fact 19 (f := .free "int") rfl)
  · exact He.free_ok X G (c.fact 20 (f := .free "isinstance") rfl)
  · exact He.free_ok X G (c.fact 21 (f := .free "len") rfl)
  · exact He.free_ok X G (c.fact 22 (f := .free "list") rfl)
  · exact He.free_ok X G (c.fact 23 (f := .free "max") rfl)
  · exact He.free_ok X G (c.fact 24 (f := .free "min") rfl)
  · exact He.free_ok X G (c.fact 25 (f := .free "range") rfl)
  · exact He.free_ok X G (c.fact 26 (f := .free "repr") rfl)
  · exact He.free_ok X G (c.fact 27 (f := .free "str") rfl)
  · exact He.free_ok X G (c.fact 28 (f := .free "tuple") rfl)
  · exact He.free_ok X G (c.fact 29 (f := .free "zip") rfl)
theorem facts {P : Program} {w : World} {a : Addr} (X : K.In h) (G : h.Ns mainGlobals mg) (ha : mg ("law" : Str) = some (.ref a)) (c : He.SaysD fa fn K) :
    ∃ fd : FuncData, (∀ (s : Shared) (v : Value), BindsTo s fd ⟨[v], []⟩ [("script", v)]) ∧ ∀ base : Heap, K.In base → base.Ns mainGlobals mg → FnG P w K mg base 43 a fd ["script"] (spF K (callN T [] 43) 15 1) := by
  obtain ⟨fd, fu⟩ := c.def_ 15 (d := d_law) rfl
  have e := ha.symm.trans (He.glo_ok X G (c.fact 15 (f := .glo "law") rfl))
  cases e
  have b := FunD.bindsA (ps := ["script"]) fu fun _ _ _ _ _ _ us hl => match us, hl with | [_], _ => rfl
  have hg : ∀ (i : Nat) (x : Str) (d : D), gn[i]? = some x → ([] : List D)[i]? = some d → ∃ v u, mg x = some u ∧ L2.RelV v u ∧ ∀ J H, RD K J H d v := fun i x d _ e => by simp at e
  exact ⟨fd, fun s v => b s [v] rfl, fun base _ _ => def_step (fn := f_law) (free X G c) hg (tab_ok (tab X G c) (free X G c) hg 42) rfl sc_law ok_law fu⟩
end
end K44
open PyProof.Rows PySem PySem.W PySem.Calls
theorem PySem.Challenge.cw_kindscarried_k44_kinds_stored_and_of_cod_holds : PySem.Challenge.rw_kindscarried_k44_kinds_stored_and_of_cod.Holds := by
  w_on; o_law
  refine HandSHeadRun.head_any (r := OpenLaw.row PySem.Challenge.rw_kindscarried_k44_kinds_stored_and_of_cod) (q := view (OpenLaw.row PySem.Challenge.rw_kindscarried_k44_kinds_stored_and_of_cod).prog [19]) (H := K44.hkD) (ob := K44.obD) (M := 3000) (loose := K44.loose) (d := HandSHeadRun.topDef (OpenLaw.row PySem.Challenge.rw_kindscarried_k44_kinds_stored_and_of_cod).prog 19) (kwd := []) K44.obD_eq
    (by kernel_rfl) (fun s => by kernel_rfl) K44.run (by kernel_rfl) (by kernel_rfl) (by kernel_rfl) (by rfl) (by first | assumption | decide +kernel) (by decide +kernel) ⟨rfl, rfl, rfl, rfl, rfl, by decide +kernel⟩ ?hw ?hc
  case hw => w_witness2
  case hc =>
    refine PV.walk_g (l := PySem.Challenge.rw_kindscarried_k44_kinds_stored_and_of_cod) (n := 63) (k := 43) (x := "script") rfl (by decide) (by kernel_rfl) ⟨rfl, by decide, by decide⟩ ?F
    intro w mg fa h Y G hmg0
    obtain ⟨K, KX, c⟩ := Y
    have hmg1 : mg ("law" : PySem.Str) = some (.ref fa) := by
      have e : (HandSHeadRun.topDef (OpenLaw.row PySem.Challenge.rw_kindscarried_k44_kinds_stored_and_of_cod).prog 19).name = ("law" : PySem.Str) := by kernel_rfl
      rw [← e]
      exact hmg0
    obtain ⟨fd, hb, hF⟩ := K44.facts (P := (PySem.Challenge.rw_kindscarried_k44_kinds_stored_and_of_cod).prog) (w := w) KX G hmg1 c
    exact ⟨K, fd, _, KX, hb, fun H a ns hl hO hS => PV.law_sp (fn := K44.f_law) rfl rfl (fun ns _ => K44.law_ev ns) (by decide) H a ns hl hO hS, hF⟩
end
