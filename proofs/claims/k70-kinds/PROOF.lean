import PyProof.Rows.All
import HandS.ForMost
import PyProof.ReprRoads
import HandS.IsInst
import HandS.Zip
import HandS.Conv
import HandS.TupAny
import HandS.Deep
import HandS.Style
import HandS.Wide
import HandS.Flow
import HandS.MapObj
import KE.KDictZip
import KE.GoesMore
import PyProof.EnumMake
import PyProof.TupleOfGen
import KE.KIndexOf
import HandS.Small
import HandS.Defaults
import HandS.Ends
import HandS.HeadEnd
import PySem.Challenge.RW_kindscarried_k70_kinds_opened_shut_fille
import KE.KStateDown
import HandS.Words
import HandS.WordsExc
import HandS.Head0
import HandS.Head1
import HandS.Head2
import HandS.HeadHook1
import HandS.HeadHook2
set_option Elab.async false
set_option linter.all false
section
/-! PvA: a small language of Python's pure part (E, S), read off the text, and its evaluator over plain data D and a list of mutable objects. -/
namespace PV
open PySem L2

/-- data: none, truths, ints, texts, tuples, lists that are never changed, mutable objects by number -/
inductive D where
  | non | bl (b : Bool) | int (i : Int) | str (x : Str)
  | tup (xs : List D) | lst (xs : List D) | ref (i : Nat)
  /-- a list that is read and never written: the script -/
  | fz (xs : List D)
  /-- a written tuple whose object is known -/
  | ftup (xs : List D)
  deriving Inhabited
/-- what a mutable object holds -/
inductive O where
  | lst (xs : List D) | dct (kvs : List (Key × D))
  deriving Inhabited
abbrev Hh := List O
structure Xc where
  cls : Nat
  fld : D
inductive R (α : Type) where
  | bad | ok (a : α) (h : Hh) | err (x : Xc) (h : Hh)
def R.bind {α β : Type} (r : R α) (f : α → Hh → R β) : R β := match r with
  | .bad => .bad
  | .ok a h => f a h
  | .err x h => .err x h
@[simp] theorem R.bind_ok {α β : Type} (a : α) (h : Hh) (f : α → Hh → R β) : (R.ok a h).bind f = f a h := rfl
@[simp] theorem R.bind_bad {α β : Type} (f : α → Hh → R β) : (R.bad : R α).bind f = .bad := rfl
@[simp] theorem R.bind_err {α β : Type} (x : Xc) (h : Hh) (f : α → Hh → R β) : (R.err x h : R α).bind f = .err x h := rfl
theorem R.bind_assoc {α β γ : Type} (r : R α) (f : α → Hh → R β) (g : β → Hh → R γ) : (r.bind f).bind g = r.bind fun a h => (f a h).bind g := by cases r <;> rfl
def R.opt {α : Type} (o : Option α) (h : Hh) : R α := match o with
  | some a => .ok a h
  | none => .bad
@[simp] theorem R.opt_some {α : Type} (a : α) (h : Hh) : R.opt (some a) h = .ok a h := rfl
@[simp] theorem R.opt_none {α : Type} (h : Hh) : R.opt (none : Option α) h = .bad := rfl

/-! ### data -/
mutual
def D.eqv : D → D → Bool
  | .non, .non => true
  | .bl a, .bl b => a == b
  | .bl a, .int j => (if a then 1 else 0) == j
  | .int i, .bl b => i == (if b then 1 else 0)
  | .int i, .int j => i == j
  | .str x, .str y => decide (x = y)
  | .lst xs, .lst ys => D.eqvs xs ys
  | .tup xs, .tup ys => D.eqvs xs ys
  | _, _ => false
def D.eqvs : List D → List D → Bool
  | [], [] => true
  | x :: xs, y :: ys => D.eqv x y && D.eqvs xs ys
  | _, _ => false
end
mutual
/-- data that == and in are told of: no mutable object in it, plain signs -/
def D.lay : D → Bool
  | .non => true
  | .bl _ => true
  | .int _ => true
  | .str x => PyData.strOk x
  | .tup xs => D.lays xs
  | .lst xs => D.lays xs
  | .ref _ => false
  | .fz _ => false
  | .ftup _ => false
def D.lays : List D → Bool
  | [] => true
  | x :: xs => D.lay x && D.lays xs
end
mutual
def D.dep : D → Nat
  | .tup xs => D.deps xs + 1
  | .lst xs => D.deps xs + 1
  | _ => 0
def D.deps : List D → Nat
  | [] => 0
  | x :: xs => max (D.dep x) (D.deps xs)
end
def D.shp (d : D) : Bool := d.lay && decide (d.dep ≤ 64)
mutual
/-- the very same -/
def D.same : D → D → Bool
  | .non, .non => true
  | .bl a, .bl b => a == b
  | .int i, .int j => i == j
  | .str x, .str y => decide (x = y)
  | .lst xs, .lst ys => D.sames xs ys
  | .tup xs, .tup ys => D.sames xs ys
  | .ref i, .ref j => i == j
  | .fz xs, .fz ys => D.sames xs ys
  | _, _ => false
def D.sames : List D → List D → Bool
  | [], [] => true
  | x :: xs, y :: ys => D.same x y && D.sames xs ys
  | _, _ => false
end
mutual
/-- no object from n on in it -/
def D.rlt (n : Nat) : D → Bool
  | .ref i => decide (i < n)
  | .tup xs => D.rlts n xs
  | .lst xs => D.rlts n xs
  | .fz xs => D.rlts n xs
  | .ftup xs => D.rlts n xs
  | _ => true
def D.rlts (n : Nat) : List D → Bool
  | [] => true
  | x :: xs => D.rlt n x && D.rlts n xs
end
def O.rlt (n : Nat) : O → Bool
  | .lst xs => D.rlts n xs
  | .dct kvs => kvs.all fun p => p.2.rlt n
def Hh.rlt (h : Hh) (n : Nat) : Bool := h.all (O.rlt n)

mutual
/-- data as the library's data -/
def D.py : D → PyData
  | .non => .none
  | .bl b => .bool b
  | .int i => .int i
  | .str x => .str x
  | .tup xs => .tuple (D.pys xs)
  | .lst xs => .list (D.pys xs)
  | .ref _ => .none
  | .fz _ => .none
  | .ftup _ => .none
def D.pys : List D → List PyData
  | [] => []
  | x :: xs => D.py x :: D.pys xs
end
/-- a mutable list, seen as it stands -/
def D.res (h : Hh) : D → D
  | .ref i => match h[i]? with
    | some (.lst xs) => .lst xs
    | _ => .ref i
  | .fz xs => .lst xs
  | d => d
/-- a list that + and * take -/
def D.own (h : Hh) : D → Option (List D)
  | .lst xs => some xs
  | .ref i => match h[i]? with
    | some (.lst xs) => some xs
    | _ => none
  | _ => none
def D.seq (h : Hh) : D → Option (List D)
  | .tup xs => some xs
  | .lst xs => some xs
  | .fz xs => some xs
  | .ftup xs => some xs
  | .ref i => match h[i]? with
    | some (.lst xs) => some xs
    | _ => none
  | _ => none
def D.key : D → Option Key
  | .int i => some (.inl i)
  | .str x => some (.inr x)
  | _ => none
def D.tru (h : Hh) : D → Option Bool
  | .non => some false
  | .bl b => some b
  | .int i => some (i != 0)
  | .str x => if x.length ≤ sizeLine then some ((x.length : Int) != 0) else none
  | .tup xs => some (!xs.isEmpty)
  | .lst xs => some (!xs.isEmpty)
  | .fz xs => some (!xs.isEmpty)
  | .ftup _ => none
  | .ref i => match h[i]? with
    | some (.lst xs) => some (!xs.isEmpty)
    | some (.dct kvs) => some (!kvs.isEmpty)
    | none => none
def D.isNon : D → Bool
  | .non => true
  | _ => false
def D.eqBl (b : Bool) : D → Bool
  | .bl a => a == b
  | _ => false
def D.isInt : D → Option Int
  | .int i => some i
  | _ => none
def D.isBl : D → Option Bool
  | .bl b => some b
  | _ => none

inductive BOp where | add | sub | mul | fdiv | mod | pow
inductive COp where | eq | ne | lt | le | gt | ge | inn | nin | is | isn
inductive Ty where | int | str | tup | lst | bl | dct | non
inductive Bf where | len | int | abs | tuple | list | max2 | min2 | sum | all | any | sorted | repr
inductive Mt where | append | pop | popAt | index | count

def mulOk (i j : Int) : Bool := decide (i.natAbs.log2 + j.natAbs.log2 < 1000000) || decide (-(2 ^ 64) < i ∧ i < 2 ^ 64) || decide (-(2 ^ 64) < j ∧ j < 2 ^ 64)
def powOk (i j : Int) : Bool := decide (0 ≤ j) && decide (j ≤ 1000000) && decide (i.natAbs < 2 ^ 64)
def sizeOk (n : Nat) : Bool := decide (n ≤ 16777216)
def cutD (xs : List D) (lo hi : Option Int) : List D := (xs.drop (HT.sIx xs.length 0 lo)).take (HT.sIx xs.length xs.length hi - HT.sIx xs.length 0 lo)

def opBin (o : BOp) (h : Hh) (x y : D) : Option D := match o with
  | .add => match x, y with
    | .int i, .int j => some (.int (i + j))
    | .str a, .str b => if sizeOk (a.length + b.length) then some (.str (a ++ b)) else none
    | .tup xs, .tup ys => if sizeOk (xs.length + ys.length) then some (.tup (xs ++ ys)) else none
    | x, y => match x.own h, y.own h with
      | some xs, some ys => if sizeOk (xs.length + ys.length) then some (.lst (xs ++ ys)) else none
      | _, _ => none
  | .sub => match x, y with
    | .int i, .int j => some (.int (i - j))
    | _, _ => none
  | .mul => match x, y with
    | .int i, .int j => if mulOk i j then some (.int (i * j)) else none
    | x, .int j => match x.own h with
      | some xs => if 0 ≤ j ∧ j ≤ 16777216 ∧ sizeOk (xs.length * j.toNat) then some (.lst (List.replicate j.toNat xs).flatten) else none
      | _ => none
    | _, _ => none
  | .fdiv => match x, y with
    | .int i, .int j => if 0 < j ∧ j < 1073741824 then some (.int (i / j)) else none
    | _, _ => none
  | .mod => match x, y with
    | .int i, .int j => if 0 < j then some (.int (i % j)) else none
    | _, _ => none
  | .pow => match x, y with
    | .int i, .int j => if powOk i j then some (.int (i ^ j.toNat)) else none
    | _, _ => none
/-- x op= y of ints and texts -/
def augOp (o : BOp) (x y : D) : Option D := match o with
  | .add => match x, y with
    | .int i, .int j => some (.int (i + j))
    | .str a, .str b => if sizeOk (a.length + b.length) then some (.str (a ++ b)) else none
    | _, _ => none
  | .sub => match x, y with
    | .int i, .int j => some (.int (i - j))
    | _, _ => none
  | .mul => none
  | .fdiv => match x, y with
    | .int i, .int j => if 0 < j ∧ j < 1073741824 then some (.int (i / j)) else none
    | _, _ => none
  | .mod => match x, y with
    | .int i, .int j => if 0 < j then some (.int (i % j)) else none
    | _, _ => none
  | .pow => none
def opEq (h : Hh) (x y : D) : Option Bool := match x, y with
  | .str a, .str b => some (decide (a = b))
  | x, y => if (x.res h).shp && (y.res h).shp then some ((x.res h).eqv (y.res h)) else none
def valD (kvs : List (Key × D)) (k : Key) : Option D := (kvs.find? fun kv => decide (kv.1 = k)).map (·.2)
def putD (kvs : List (Key × D)) (k : Key) (v : D) : List (Key × D) :=
  if (kvs.any fun kv => decide (kv.1 = k)) = true
  then kvs.map (fun kv => if kv.1 = k then (kv.1, v) else kv) else kvs ++ [(k, v)]
def dropD (kvs : List (Key × D)) (k : Key) : List (Key × D) := kvs.filter fun kv => decide (kv.1 ≠ k)
def hasKey (k : Key) (kvs : List (Key × D)) : Bool := (valD kvs k).isSome
def opIn (h : Hh) (x y : D) : Option Bool := match y with
  | .ref i => match h[i]? with
    | some (.lst ys) => if x.shp && (D.lst ys).shp then some (ys.any fun y => y.eqv x) else none
    | some (.dct kvs) => match x.key with
      | some k => some (hasKey k kvs)
      | none => none
    | none => none
  | .lst ys => if x.shp && (D.lst ys).shp then some (ys.any fun y => y.eqv x) else none
  | .tup ys => if x.shp && (D.tup ys).shp then some (ys.any fun y => y.eqv x) else none
  | .ftup ys => if x.shp && (D.tup ys).shp then some (ys.any fun y => y.eqv x) else none
  | _ => none
def opCmp (o : COp) (h : Hh) (x y : D) : Option Bool := match o with
  | .eq => opEq h x y
  | .ne => (opEq h x y).map (!·)
  | .lt => match x, y with
    | .int i, .int j => some (decide (i < j))
    | _, _ => none
  | .le => match x, y with
    | .int i, .int j => some (decide (i ≤ j))
    | _, _ => none
  | .gt => match x, y with
    | .int i, .int j => some (decide (j < i))
    | _, _ => none
  | .ge => match x, y with
    | .int i, .int j => some (decide (j ≤ i))
    | _, _ => none
  | .inn => opIn h x y
  | .nin => (opIn h x y).map (!·)
  | .is => match y with
    | .non => some x.isNon
    | .bl b => some (x.eqBl b)
    | _ => none
  | .isn => match y with
    | .non => some (!x.isNon)
    | .bl b => some (!x.eqBl b)
    | _ => none
def opIdx (h : Hh) (x y : D) : Option D := match x, y with
  | .tup xs, .int i => atI xs i
  | .lst xs, .int i => atI xs i
  | .fz xs, .int i => atI xs i
  | .ref r, y => match h[r]?, y with
    | some (.lst xs), .int i => atI xs i
    | some (.dct kvs), y => match y.key with
      | some k => valD kvs k
      | none => none
    | _, _ => none
  | _, _ => none
def opSlc (h : Hh) (x : D) (l u : Option Int) : Option D := match x with
  | .tup xs => some (.tup (cutD xs l u))
  | x => match x.res h with
    | .lst xs => some (.lst (cutD xs l u))
    | _ => none
def opIsi (t : Ty) (h : Hh) (x : D) : Bool := match t, x with
  | .int, .int _ => true
  | .int, .bl _ => true
  | .bl, .bl _ => true
  | .non, .non => true
  | .str, .str _ => true
  | .tup, .tup _ => true
  | .lst, .lst _ => true
  | .lst, .fz _ => true
  | .lst, .ref i => match h[i]? with | some (.lst _) => true | _ => false
  | .dct, .ref i => match h[i]? with | some (.dct _) => true | _ => false
  | _, _ => false
def D.ints : List D → Option (List Int)
  | [] => some []
  | .int i :: r => (D.ints r).map (i :: ·)
  | _ => none
def D.bls : List D → Option (List Bool)
  | [] => some []
  | .bl b :: r => (D.bls r).map (b :: ·)
  | _ => none
def D.lstOf : D → Option (List D)
  | .lst xs => some xs
  | _ => none
def bfLen (h : Hh) : List D → Option D
  | [.tup ys] => some (.int ys.length)
  | [.lst ys] => some (.int ys.length)
  | [.fz ys] => some (.int ys.length)
  | [.ftup ys] => some (.int ys.length)
  | [.str x] => if x.length ≤ sizeLine then some (.int x.length) else none
  | [.ref i] => match h[i]? with
    | some (.lst ys) => some (.int ys.length)
    | some (.dct kvs) => some (.int kvs.length)
    | none => none
  | _ => none
def bfInt : List D → Option D
  | [.int i] => some (.int i)
  | [.bl b] => some (.int (if b then 1 else 0))
  | _ => none
def bfAbs : List D → Option D
  | [.int i] => some (.int (if i < 0 then -i else i))
  | _ => none
def bfTuple (h : Hh) : List D → Option D
  | [.ftup _] => none
  | [x] => (x.seq h).map D.tup
  | _ => none
def bfList (h : Hh) : List D → Option D
  | [x] => (x.seq h).map D.lst
  | _ => none
def bfMax : List D → Option D
  | [.int i, .int j] => some (.int (if j > i then j else i))
  | _ => none
def bfMin : List D → Option D
  | [.int i, .int j] => some (.int (if j < i then j else i))
  | _ => none
def bfSum (h : Hh) : List D → Option D
  | [x] => ((x.res h).lstOf.bind D.ints).map fun ns => .int ns.sum
  | _ => none
def bfAll (h : Hh) : List D → Option D
  | [x] => ((x.res h).lstOf.bind D.bls).map fun bs => .bl (bs.all id)
  | _ => none
def bfAny (h : Hh) : List D → Option D
  | [x] => ((x.res h).lstOf.bind D.bls).map fun bs => .bl (bs.any id)
  | _ => none
def D.isSeq : D → Bool
  | .tup _ => true
  | .lst _ => true
  | _ => false
def reprD (d : D) : Option D := if d.isSeq && d.shp && d.py.showable && decide (d.py.shown.length ≤ 16777216) then some (.str d.py.shown) else none
def bfRepr (h : Hh) : List D → Option D
  | [x] => reprD (x.res h)
  | _ => none
def opBf (f : Bf) (h : Hh) (xs : List D) : Option D := match f with
  | .len => bfLen h xs
  | .int => bfInt xs
  | .abs => bfAbs xs
  | .tuple => bfTuple h xs
  | .list => bfList h xs
  | .max2 => bfMax xs
  | .min2 => bfMin xs
  | .sum => bfSum h xs
  | .all => bfAll h xs
  | .any => bfAny h xs
  | .sorted => none
  | .repr => bfRepr h xs

/-! ### the syntax -/
mutual
inductive E where
  | var (i : Nat) | con (d : D) | glo (i : Nat) | miss
  | tup (es : Es) | ftup (es : Es) | lst (es : Es) | new (e : E) | dic0
  | bin (o : BOp) (a b : E) | neg (a : E)
  | cmp (o : COp) (a b : E) | chain (o p : COp) (a b c : E)
  | and (a : E) (r : Es) | or (a : E) (r : Es) | not (a : E) | ite (c a b : E)
  | idx (a i : E) | slc (a lo hi : E)
  | call (f : Nat) (es : Es) | callK (f : Nat) (es kes : Es) (ks : List Nat)
  | bf (f : Bf) (es : Es) | isi (a : E) (t : Ty)
  | mth (m : Mt) (o : E) (es : Es)
  | lc (t : Tg) (it : I) (c e : E)
  | tenum (a : E)
inductive Es where
  | nil | cons (e : E) (es : Es)
inductive I where
  | ev (e : E) | rng (n : E) | rng2 (a b : E) | zip (a b : E) | enum (a : E)
inductive Tg where
  | v (i : Nat) | tu (is : List Nat)
end
def E.isMiss : E → Bool
  | .miss => true
  | _ => false
mutual
inductive S where
  | asg (i : Nat) (e : E) | asgLc (i : Nat) (e : E) | par (i j : Nat) (a b : E) | unp (is : List Nat) (e : E)
  | sto (o i e : E) | aug (i : Nat) (o : BOp) (e : E) | augL (i : Nat) (e : E)
  | exp (e : E) | ret (e : E) | retN
  | ite (c : E) (a b : Ss) | whl (c : E) (b : Ss) | for_ (t : Tg) (it : I) (b : Ss)
  | pass | brk | cnt | gc (ks : List Nat) (b : S)
inductive Ss where
  | nil | cons (s : S) (ss : Ss)
end
abbrev Env := List (Option D)
abbrev Fns := Nat → List D → Hh → R D

/-! ### the evaluator -/
/-- the items, and the object that they are read off -/
structure Src where
  items : List D
  off : Option Nat
def Src.good (s : Src) (h : Hh) : Bool := match s.off with
  | none => true
  | some i => match h[i]? with
    | some (.lst xs) => D.sames xs s.items
    | _ => false
def D.src (h : Hh) : D → Option Src
  | .tup xs => some ⟨xs, none⟩
  | .lst xs => some ⟨xs, none⟩
  | .fz xs => some ⟨xs, none⟩
  | .ref i => match h[i]? with
    | some (.lst xs) => some ⟨xs, some i⟩
    | _ => none
  | _ => none
def rngOk (a b : Int) : Bool := decide (-(2 ^ 62) ≤ a) && decide (a < 2 ^ 62) && decide (-(2 ^ 62) ≤ b) && decide (b < 2 ^ 62)
def rngD (a b : Int) : List D := (List.range (b - a).toNat).map fun k => .int (a + (k : Nat))
def zipD (xs ys : List D) : List D := List.zipWith (fun x y => .tup [x, y]) xs ys
def enumD (n : Nat) : List D → List D
  | [] => []
  | x :: xs => .tup [.int n, x] :: enumD (n + 1) xs
def tenumOp : D → Option D
  | .tup xs => if sizeOk xs.length then some (.tup (enumD 0 xs)) else none
  | _ => none
def zipSrc : D → D → Option Src
  | .tup xs, .tup ys => some ⟨zipD xs ys, none⟩
  | .lst xs, .lst ys => some ⟨zipD xs ys, none⟩
  | _, _ => none
def enumSrc : D → Option Src
  | .lst xs => some ⟨enumD 0 xs, none⟩
  | _ => none
def setAll : List Nat → List D → Env → Option Env
  | [], [], ρ => some ρ
  | i :: is, x :: xs, ρ => setAll is xs (ρ.set i (some x))
  | _, _, _ => none
def Tg.put (t : Tg) (x : D) (ρ : Env) : Option Env := match t with
  | .v i => some (ρ.set i (some x))
  | .tu is => match x with
    | .tup xs => setAll is xs ρ
    | _ => none
def Tg.slots : Tg → List Nat
  | .v i => [i]
  | .tu is => is
/-- the loop of a comprehension -/
def lcLoop (good : Hh → Bool) (turn : D → Hh → R (Option D)) : List D → List D → Hh → R D
  | [], acc, h => if good h then .ok (.lst acc) h else .bad
  | x :: xs, acc, h => if good h then (match turn x h with
    | .ok (some y) h' => lcLoop good turn xs (acc ++ [y]) h'
    | .ok none h' => lcLoop good turn xs acc h'
    | _ => .bad) else .bad
def newObj (d : D) (h : Hh) : R D := match d with
  | .lst xs => .ok (.ref h.length) (h ++ [.lst xs])
  | _ => .bad
def mtAppend (ys : List D) : List D → Option (D × List D)
  | [x] => if sizeOk (ys.length + 1) then some (.non, ys ++ [x]) else none
  | _ => none
def mtPop (ys : List D) : List D → Option (D × List D)
  | [] => (ys[ys.length - 1]?).map fun y => (y, ys.dropLast)
  | _ => none
def mtPopAt (ys : List D) : List D → Option (D × List D)
  | [.int k] => (ixN ys.length k).bind fun j => (ys[j]?).map fun y => (y, ys.eraseIdx j)
  | _ => none
def mtL (m : Mt) (ys xs : List D) : Option (D × List D) := match m with
  | .append => mtAppend ys xs
  | .pop => mtPop ys xs
  | .popAt => mtPopAt ys xs
  | .index => none
  | .count => none
def mthRef (m : Mt) (i : Nat) (xs : List D) (h : Hh) : R D := match h[i]? with
  | some (.lst ys) => match mtL m ys xs with
    | some p => .ok p.1 (h.set i (.lst p.2))
    | none => .bad
  | _ => .bad
def mthOp (m : Mt) (o : D) (xs : List D) (h : Hh) : R D := match o with
  | .ref i => mthRef m i xs h
  | _ => .bad
/-- positional and keyword arguments in the parameters' order -/
def pmD {α : Type} (d : α) (ks : List Nat) (xs ys : List α) : List α := ks.map fun k => (xs ++ ys).getD k d
def D.isL (h : Hh) : D → Bool
  | .ref i => match h[i]? with
    | some (.lst _) => true
    | _ => false
  | .lst _ => true
  | .fz _ => true
  | _ => false
/-- what an expression does: as a value, as a test -/
structure P where
  v : Env → Hh → R D
  t : Env → Hh → R Bool
def P.plain (v : Env → Hh → R D) : P := ⟨v, fun ρ h => (v ρ h).bind fun x h1 => R.opt (x.tru h1) h1⟩
/-- .. a row of expressions: their values, and, or of them as a value, as a test -/
structure PL where
  nil : Bool
  l : Env → Hh → R (List D)
  an : Env → Hh → R D
  on : Env → Hh → R D
  at_ : Env → Hh → R Bool
  ot : Env → Hh → R Bool
/-- a slice's part -/
def vPart (m : Bool) (p : P) (ρ : Env) (h : Hh) : R (Option Int) := if m then .ok none h else (p.v ρ h).bind fun d h1 => R.opt (d.isInt.map some) h1
/-- one turn of a comprehension -/
def lcTurn (t : Tg) (c e : P) (ρ : Env) (x : D) (h : Hh) : R (Option D) := match t.put x ρ with
  | none => .bad
  | some ρ' => (c.t ρ' h).bind fun ok h3 => if ok then (e.v ρ' h3).bind fun y h4 => .ok (some y) h4 else .ok none h3
def vBl (x : D) (h : Hh) : R Bool := R.opt x.isBl h
/-- a written tuple -/
def D.isF : D → Bool
  | .ftup _ => true
  | _ => false
/-- what t.index goes through -/
def D.ixs : D → Option (List D)
  | .ftup xs => some xs
  | .lst xs => some xs
  | .fz xs => some xs
  | _ => none
def idxD (ds : List D) : List D → Option D
  | [.int z] => (D.ints ds).bind fun ns => if z ∈ ns then some (.int (ns.idxOf z : Nat)) else none
  | _ => none
def mthI (po : P) (pl : PL) : P := .plain fun ρ h => (po.v ρ h).bind fun x h1 => match x.ixs with
  | some ds => (pl.l ρ h1).bind fun xs h2 => R.opt (idxD ds xs) h2
  | none => .bad
def mthP (m : Mt) (po : P) (pl : PL) : P := match m with
  | .index => mthI po pl
  | m => .plain fun ρ h => (po.v ρ h).bind fun x h1 => if x.isL h1 then (pl.l ρ h1).bind fun xs h2 => mthOp m x xs h2 else .bad
section
variable (F : Fns) (G : List D)
mutual
def evE : E → P
  | .var i => .plain fun ρ h => match ρ[i]? with
    | some (some d) => .ok d h
    | _ => .bad
  | .con d => .plain fun _ h => .ok d h
  | .glo i => .plain fun _ h => R.opt G[i]? h
  | .miss => ⟨fun _ h => .ok .non h, fun _ h => .ok true h⟩
  | .tup es => .plain fun ρ h => ((evEs es).l ρ h).bind fun xs h1 => if sizeOk xs.length then .ok (.tup xs) h1 else .bad
  | .ftup es => .plain fun ρ h => ((evEs es).l ρ h).bind fun xs h1 => if sizeOk xs.length then .ok (.ftup xs) h1 else .bad
  | .lst es => .plain fun ρ h => ((evEs es).l ρ h).bind fun xs h1 => if sizeOk xs.length then .ok (.lst xs) h1 else .bad
  | .new e => .plain fun ρ h => ((evE e).v ρ h).bind newObj
  | .dic0 => .plain fun _ h => .ok (.ref h.length) (h ++ [.dct []])
  | .bin o a b => .plain fun ρ h => ((evE a).v ρ h).bind fun x h1 => ((evE b).v ρ h1).bind fun y h2 => R.opt (opBin o h2 x y) h2
  | .neg a => .plain fun ρ h => ((evE a).v ρ h).bind fun x h1 => R.opt (x.isInt.map fun i => .int (-i)) h1
  | .cmp o a b => .plain fun ρ h => ((evE a).v ρ h).bind fun x h1 => ((evE b).v ρ h1).bind fun y h2 => R.opt ((opCmp o h2 x y).map D.bl) h2
  | .chain o p a b c => .plain fun ρ h => ((evE a).v ρ h).bind fun x h1 => ((evE b).v ρ h1).bind fun y h2 => (R.opt (opCmp o h2 x y) h2).bind fun t h3 =>
      if t then ((evE c).v ρ h3).bind fun z h4 => R.opt ((opCmp p h4 y z).map D.bl) h4 else .ok (.bl false) h3
  | .and a r => ⟨fun ρ h => ((evE a).v ρ h).bind fun x h1 => (vBl x h1).bind fun t h2 => if t then (evEs r).an ρ h2 else .ok (.bl false) h2,
      fun ρ h => ((evE a).t ρ h).bind fun t h1 => if t then (evEs r).at_ ρ h1 else .ok false h1⟩
  | .or a r => ⟨fun ρ h => ((evE a).v ρ h).bind fun x h1 => (vBl x h1).bind fun t h2 => if t then .ok (.bl true) h2 else (evEs r).on ρ h2,
      fun ρ h => ((evE a).t ρ h).bind fun t h1 => if t then .ok true h1 else (evEs r).ot ρ h1⟩
  | .not a => ⟨fun ρ h => ((evE a).v ρ h).bind fun x h1 => (vBl x h1).bind fun t h2 => .ok (.bl (!t)) h2,
      fun ρ h => ((evE a).t ρ h).bind fun t h1 => .ok (!t) h1⟩
  | .ite c a b => ⟨fun ρ h => ((evE c).t ρ h).bind fun t h1 => if t then (evE a).v ρ h1 else (evE b).v ρ h1,
      fun ρ h => ((evE c).t ρ h).bind fun t h1 => if t then (evE a).t ρ h1 else (evE b).t ρ h1⟩
  | .idx a i => .plain fun ρ h => ((evE a).v ρ h).bind fun x h1 => ((evE i).v ρ h1).bind fun y h2 => R.opt (opIdx h2 x y) h2
  | .slc a lo hi => .plain fun ρ h => ((evE a).v ρ h).bind fun x h1 => (vPart lo.isMiss (evE lo) ρ h1).bind fun l h2 => (vPart hi.isMiss (evE hi) ρ h2).bind fun u h3 => R.opt (opSlc h3 x l u) h3
  | .call f es => .plain fun ρ h => ((evEs es).l ρ h).bind fun xs h1 => F f xs h1
  | .callK f es kes ks => .plain fun ρ h => ((evEs es).l ρ h).bind fun xs h1 => ((evEs kes).l ρ h1).bind fun ys h2 => F f (pmD .non ks xs ys) h2
  | .bf f es => .plain fun ρ h => ((evEs es).l ρ h).bind fun xs h1 => R.opt (opBf f h1 xs) h1
  | .isi a t => .plain fun ρ h => ((evE a).v ρ h).bind fun x h1 => if x.isF then .bad else .ok (.bl (opIsi t h1 x)) h1
  | .mth m o es => mthP m (evE o) (evEs es)
  | .lc t it c e => .plain fun ρ h => (evI it ρ h).bind fun s h1 => if sizeOk s.items.length then lcLoop s.good (lcTurn t (evE c) (evE e) ρ) s.items [] h1 else .bad
  | .tenum a => .plain fun ρ h => ((evE a).v ρ h).bind fun x h1 => R.opt (tenumOp x) h1
def evEs : Es → PL
  | .nil => ⟨true, fun _ h => .ok [] h, fun _ _ => .bad, fun _ _ => .bad, fun _ _ => .bad, fun _ _ => .bad⟩
  | .cons e es => ⟨false,
      fun ρ h => ((evE e).v ρ h).bind fun x h1 => ((evEs es).l ρ h1).bind fun xs h2 => .ok (x :: xs) h2,
      fun ρ h => if (evEs es).nil then (evE e).v ρ h else ((evE e).v ρ h).bind fun x h1 => (vBl x h1).bind fun t h2 => if t then (evEs es).an ρ h2 else .ok (.bl false) h2,
      fun ρ h => if (evEs es).nil then (evE e).v ρ h else ((evE e).v ρ h).bind fun x h1 => (vBl x h1).bind fun t h2 => if t then .ok (.bl true) h2 else (evEs es).on ρ h2,
      fun ρ h => if (evEs es).nil then (evE e).t ρ h else ((evE e).t ρ h).bind fun t h1 => if t then (evEs es).at_ ρ h1 else .ok false h1,
      fun ρ h => if (evEs es).nil then (evE e).t ρ h else ((evE e).t ρ h).bind fun t h1 => if t then .ok true h1 else (evEs es).ot ρ h1⟩
def evI : I → Env → Hh → R Src
  | .ev e, ρ, h => ((evE e).v ρ h).bind fun x h1 => R.opt (x.src h1) h1
  | .rng n, ρ, h => ((evE n).v ρ h).bind fun x h1 => R.opt (x.isInt.bind fun n => if rngOk 0 n then some ⟨rngD 0 n, none⟩ else none) h1
  | .rng2 a b, ρ, h => ((evE a).v ρ h).bind fun x h1 => ((evE b).v ρ h1).bind fun y h2 => R.opt (x.isInt.bind fun i => y.isInt.bind fun j => if rngOk i j then some ⟨rngD i j, none⟩ else none) h2
  | .zip a b, ρ, h => ((evE a).v ρ h).bind fun x h1 => ((evE b).v ρ h1).bind fun y h2 => R.opt (zipSrc x y) h2
  | .enum a, ρ, h => ((evE a).v ρ h).bind fun x h1 => R.opt (enumSrc x) h1
end

/-! ### statements -/
inductive RS where
  | bad | nxt (ρ : Env) (h : Hh) | ret (d : D) (h : Hh) | brk (ρ : Env) (h : Hh) | cnt (ρ : Env) (h : Hh) | err (x : Xc) (h : Hh)
def R.then_ {α : Type} (r : R α) (f : α → Hh → RS) : RS := match r with
  | .bad => .bad
  | .ok a h => f a h
  | .err x h => .err x h
@[simp] theorem R.then_ok {α : Type} (a : α) (h : Hh) (f : α → Hh → RS) : (R.ok a h).then_ f = f a h := rfl
@[simp] theorem R.then_bad {α : Type} (f : α → Hh → RS) : (R.bad : R α).then_ f = .bad := rfl
def RS.then_ (r : RS) (f : Env → Hh → RS) : RS := match r with
  | .nxt ρ h => f ρ h
  | r => r
def RS.opt (o : Option Env) (h : Hh) : RS := match o with
  | some ρ => .nxt ρ h
  | none => .bad
def whlLoop (c : Env → Hh → R Bool) (b : Env → Hh → RS) : Nat → Env → Hh → RS
  | 0, _, _ => .bad
  | n + 1, ρ, h => (c ρ h).then_ fun t h1 => if t then (match b ρ h1 with
      | .nxt ρ' h' => whlLoop c b n ρ' h'
      | .cnt ρ' h' => whlLoop c b n ρ' h'
      | .brk ρ' h' => .nxt ρ' h'
      | r => r) else .nxt ρ h1
def forLoop (good : Hh → Bool) (t : Tg) (b : Env → Hh → RS) : List D → Env → Hh → RS
  | [], ρ, h => if good h then .nxt ρ h else .bad
  | x :: xs, ρ, h => if good h then (match t.put x ρ with
      | none => .bad
      | some ρ1 => match b ρ1 h with
        | .nxt ρ' h' => forLoop good t b xs ρ' h'
        | .cnt ρ' h' => forLoop good t b xs ρ' h'
        | .brk ρ' h' => .nxt ρ' h'
        | r => r) else .bad
/-- so many turns a while may take -/
def wfuel : Nat := 2 ^ 64
def kill : List Nat → Env → Env
  | [], ρ => ρ
  | i :: is, ρ => kill is (ρ.set i none)
def Env.rlt (n : Nat) (ρ : Env) : Bool := ρ.all fun o => match o with
  | some d => d.rlt n
  | none => true
/-- names forgotten, then the objects from n on, if nothing leads to them -/
def gcS (ks : List Nat) (n : Nat) (r : RS) : RS := match r with
  | .nxt ρ h => if Env.rlt n (kill ks ρ) && Hh.rlt (h.take n) n then .nxt (kill ks ρ) (h.take n) else .bad
  | .brk ρ h => if Env.rlt n (kill ks ρ) && Hh.rlt (h.take n) n then .brk (kill ks ρ) (h.take n) else .bad
  | .cnt ρ h => if Env.rlt n (kill ks ρ) && Hh.rlt (h.take n) n then .cnt (kill ks ρ) (h.take n) else .bad
  | r => r
def stoOp (o i x : D) (h : Hh) : Option Hh := match o with
  | .ref r => match h[r]? with
    | some (.lst ys) => match i with
      | .int k => match ixN ys.length k with
        | some j => some (h.set r (.lst (ys.set j x)))
        | none => none
      | _ => none
    | some (.dct kvs) => match i.key with
      | some k => if sizeOk (kvs.length + 1) then some (h.set r (.dct (putD kvs k x))) else none
      | none => none
    | none => none
  | _ => none
mutual
def evS : S → Env → Hh → RS
  | .asg i e, ρ, h => ((evE F G e).v ρ h).then_ fun x h1 => .nxt (ρ.set i (some x)) h1
  | .asgLc i e, ρ, h => ((evE F G e).v ρ h).then_ fun x h1 => .nxt (ρ.set i (some x)) h1
  | .par i j a b, ρ, h => ((evE F G a).v ρ h).then_ fun x h1 => ((evE F G b).v ρ h1).then_ fun y h2 => .nxt ((ρ.set i (some x)).set j (some y)) h2
  | .unp is e, ρ, h => ((evE F G e).v ρ h).then_ fun x h1 => RS.opt ((Tg.tu is).put x ρ) h1
  | .sto o i e, ρ, h => ((evE F G e).v ρ h).then_ fun x h1 => ((evE F G o).v ρ h1).then_ fun y h2 => ((evE F G i).v ρ h2).then_ fun z h3 => match stoOp y z x h3 with
    | some h4 => .nxt ρ h4
    | none => .bad
  | .aug i o e, ρ, h => match ρ[i]? with
    | some (some x) => ((evE F G e).v ρ h).then_ fun y h1 => match augOp o x y with
      | some z => .nxt (ρ.set i (some z)) h1
      | none => .bad
    | _ => .bad
  | .augL i e, ρ, h => match ρ[i]? with
    | some (some (.ref r)) => ((evE F G e).v ρ h).then_ fun y h1 => match h1[r]?, y.seq h1 with
      | some (.lst xs), some ys => if sizeOk (xs.length + ys.length) then .nxt ρ (h1.set r (.lst (xs ++ ys))) else .bad
      | _, _ => .bad
    | _ => .bad
  | .exp e, ρ, h => ((evE F G e).v ρ h).then_ fun _ h1 => .nxt ρ h1
  | .ret e, ρ, h => ((evE F G e).v ρ h).then_ fun x h1 => .ret x h1
  | .retN, _, h => .ret .non h
  | .ite c a b, ρ, h => ((evE F G c).t ρ h).then_ fun t h1 => if t then evSs a ρ h1 else evSs b ρ h1
  | .whl c b, ρ, h => whlLoop (evE F G c).t (evSs b) wfuel ρ h
  | .for_ t it b, ρ, h => (evI F G it ρ h).then_ fun s h1 => forLoop s.good t (evSs b) s.items ρ h1
  | .pass, ρ, h => .nxt ρ h
  | .brk, ρ, h => .brk ρ h
  | .cnt, ρ, h => .cnt ρ h
  | .gc ks b, ρ, h => gcS ks h.length (evS b ρ h)
def evSs : Ss → Env → Hh → RS
  | .nil, ρ, h => .nxt ρ h
  | .cons s ss, ρ, h => (evS s ρ h).then_ (evSs ss)
end
end

/-! ### defs -/
structure Fn where
  name : Str
  N : List Str
  P : List Str
  frz : Bool
  body : Ss
  /-- the shapes of its calls with keywords: so many in front, these names, the order -/
  kw : List (Nat × List Str × List Nat) := []
/-- the objects from n on, as they stand -/
def D.frz (h : Hh) (n : Nat) : Nat → D → D
  | 0, d => d
  | k + 1, d => match d with
    | .ref i => if i < n then .ref i else match h[i]? with
      | some (.lst xs) => .lst (xs.map (D.frz h n k))
      | _ => .ref i
    | .tup xs => .tup (xs.map (D.frz h n k))
    | .lst xs => .lst (xs.map (D.frz h n k))
    | d => d
/-- a def's end: its lists are from now on never changed (frz), what it made is let go -/
def finD (f : Bool) (n : Nat) (d : D) (h : Hh) : R D :=
  if f then (if (d.frz h n 4).rlt n && Hh.rlt (h.take n) n then .ok (d.frz h n 4) (h.take n) else .bad) else .ok d h
def finR (f : Bool) (n : Nat) (r : RS) : R D := match r with
  | .ret d h => finD f n d h
  | .nxt _ h => finD f n .non h
  | _ => .bad
def callN (T : List Fn) (G : List D) : Nat → Fns
  | 0 => fun _ _ _ => .bad
  | k + 1 => fun f args h => match T[f]? with
    | none => .bad
    | some fn => if args.length = fn.P.length then finR fn.frz h.length (evSs (callN T G k) G fn.body (args.map some ++ List.replicate (fn.N.length - args.length) none) h) else .bad
end PV
end

section
set_option maxRecDepth 100000
namespace PV
open L2 PySem PySem.Spec PyProof.Rows

/-- where the mutable objects stand; addresses that no data may name -/
structure Jn where
  l : List Addr
  z : List Addr
section
variable (K : PySem.W.Frag)
mutual
/-- data as it lies in the heap -/
inductive RD (J : Jn) (H : Hp) : D → V → Prop
  | non : RD J H .non .non
  | bl (b : Bool) : RD J H (.bl b) (.bl b)
  | int (i : Int) : RD J H (.int i) (.int i)
  | str (x : Str) : RD J H (.str x) (.str x)
  | tup {a : Addr} {ds : List D} {vs : List V} : a ∉ J.l → a ∉ J.z → H a = some (.tup vs) → vs.length ≤ sizeLine → RDs J H ds vs → RD J H (.tup ds) (.ref a)
  | ktup {a : Addr} {ds : List D} {vs : List V} (k : ∃ (o : Obj) (its : Array Value) (n : Nat), K.lookup a = some o ∧ o.cls = .type "tuple" ∧ o.data = .seq its n ∧ its.size ≤ sizeLine ∧ Vals vs its.toList) : vs.length ≤ sizeLine → RDs J H ds vs → RD J H (.tup ds) (.ref a)
  | lst {a : Addr} {ds : List D} {vs : List V} : a ∉ J.l → a ∉ J.z → H a = some (.lst vs) → vs.length ≤ sizeLine → RDs J H ds vs → RD J H (.lst ds) (.ref a)
  | ref {i : Nat} {a : Addr} : J.l[i]? = some a → RD J H (.ref i) (.ref a)
  | fz {a : Addr} {o : Obj} {ds : List D} {vs : List V} : a ∉ J.l → a ∉ J.z → H a = some (.frz o (.lst vs)) → vs.length ≤ sizeLine → RDs J H ds vs → RD J H (.fz ds) (.ref a)
  | ft {a : Addr} {o : Obj} {ds : List D} {vs : List V} : a ∉ J.l → a ∉ J.z → H a = some (.frz o (.tup vs)) → o.cls = .type "tuple" → o.dict = none → vs.length ≤ sizeLine → RDs J H ds vs → RD J H (.ftup ds) (.ref a)
  | kfz {a : Addr} {ds : List D} {vs : List V} (k : ∃ (o : Obj) (its : Array Value) (n : Nat), K.lookup a = some o ∧ o.cls = .type "list" ∧ o.dict = none ∧ o.data = .seq its n ∧ its.size ≤ sizeLine ∧ Vals vs its.toList) : vs.length ≤ sizeLine → RDs J H ds vs → RD J H (.fz ds) (.ref a)
inductive RDs (J : Jn) (H : Hp) : List D → List V → Prop
  | nil : RDs J H [] []
  | cons {d : D} {ds : List D} {v : V} {vs : List V} : RD J H d v → RDs J H ds vs → RDs J H (d :: ds) (v :: vs)
end
inductive RO (J : Jn) (H : Hp) : O → HO → Prop
  | lst {ds : List D} {vs : List V} : vs.length ≤ sizeLine → RDs K J H ds vs → RO J H (.lst ds) (.lst vs)
  | dct {kvs : List (Key × D)} {kws : List (Key × V)} : kws.length ≤ sizeLine → Paired (fun p q => p.1 = q.1 ∧ RD K J H p.2 q.2) kvs kws → RO J H (.dct kvs) (.dK kws)
structure RH (J : Jn) (h : Hh) (H : Hp) : Prop where
  nd : J.l.Nodup
  len : J.l.length = h.length
  obj : ∀ (i : Nat) (o : O), h[i]? = some o → ∃ a u, J.l[i]? = some a ∧ H a = some u ∧ RO K J H o u
  apart : ∀ a ∈ J.z, a ∉ J.l
  zed : ∀ a ∈ J.z, H a ≠ none
end
/-- what stood, stands, but for the mutable objects; the new ones were not there -/
structure Ext (J : Jn) (H : Hp) (J' : Jn) (H' : Hp) : Prop where
  z : J'.z = J.z
  pre : ∃ m, J'.l = J.l ++ m ∧ ∀ a ∈ m, H a = none
  keep : ∀ a o, a ∉ J.l → H a = some o → H' a = some o

section
variable {K : PySem.W.Frag} {J J' J2 : Jn} {H H' H2 : Hp} {h h' : Hh} {d : D} {v : V} {ds : List D} {vs : List V}
theorem RDs.length (r : RDs K J H ds vs) : ds.length = vs.length := by
  induction ds generalizing vs with
  | nil => cases r; rfl
  | cons d ds ih => cases r with | cons _ t => simp [ih t]
theorem RDs.get : ∀ {ds : List D} {vs : List V} {i : Nat} {d : D}, RDs K J H ds vs → ds[i]? = some d → ∃ v, vs[i]? = some v ∧ RD K J H d v
  | _, _, _, _, .nil, e => (by simp at e)
  | _, _, 0, _, .cons r _, e => (by simp at e; subst e; exact ⟨_, rfl, r⟩)
  | _, _, i + 1, _, .cons _ t, e => by
    obtain ⟨v, h1, h2⟩ := RDs.get (i := i) t (by simpa using e)
    exact ⟨v, by simpa using h1, h2⟩
theorem RDs.getV : ∀ {ds : List D} {vs : List V} {i : Nat} {v : V}, RDs K J H ds vs → vs[i]? = some v → ∃ d, ds[i]? = some d ∧ RD K J H d v
  | _, _, _, _, .nil, e => (by simp at e)
  | _, _, 0, _, .cons r _, e => (by simp at e; subst e; exact ⟨_, rfl, r⟩)
  | _, _, i + 1, _, .cons _ t, e => by
    obtain ⟨v, h1, h2⟩ := RDs.getV (i := i) t (by simpa using e)
    exact ⟨v, by simpa using h1, h2⟩
theorem RDs.append : ∀ {ds es : List D} {vs ws : List V}, RDs K J H ds vs → RDs K J H es ws → RDs K J H (ds ++ es) (vs ++ ws)
  | _, _, _, _, .nil, s => s
  | _, _, _, _, .cons r t, s => .cons r (RDs.append t s)
theorem RDs.take : ∀ {ds : List D} {vs : List V} (n : Nat), RDs K J H ds vs → RDs K J H (ds.take n) (vs.take n)
  | _, _, 0, _ => by simp; exact .nil
  | _, _, _ + 1, .nil => .nil
  | _, _, n + 1, .cons r t => .cons r (RDs.take n t)
theorem RDs.drop : ∀ {ds : List D} {vs : List V} (n : Nat), RDs K J H ds vs → RDs K J H (ds.drop n) (vs.drop n)
  | _, _, 0, r => r
  | _, _, _ + 1, .nil => .nil
  | _, _, n + 1, .cons _ t => RDs.drop n t
theorem RDs.set : ∀ {ds : List D} {vs : List V} (i : Nat) {d : D} {v : V}, RD K J H d v → RDs K J H ds vs → RDs K J H (ds.set i d) (vs.set i v)
  | _, _, _, _, _, _, .nil => .nil
  | _, _, 0, _, _, r, .cons _ t => .cons r t
  | _, _, i + 1, _, _, r, .cons q t => .cons q (RDs.set i r t)
theorem RDs.eraseIdx : ∀ {ds : List D} {vs : List V} (i : Nat), RDs K J H ds vs → RDs K J H (ds.eraseIdx i) (vs.eraseIdx i)
  | _, _, _, .nil => .nil
  | _, _, 0, .cons _ t => t
  | _, _, i + 1, .cons q t => .cons q (RDs.eraseIdx i t)
theorem RDs.dropLast (r : RDs K J H ds vs) : RDs K J H ds.dropLast vs.dropLast := by
  rw [List.dropLast_eq_take, List.dropLast_eq_take, r.length]
  exact r.take _
theorem RDs.replicate (r : RDs K J H ds vs) : ∀ n : Nat, RDs K J H (List.replicate n ds).flatten (List.replicate n vs).flatten
  | 0 => .nil
  | n + 1 => by
    (rw [List.replicate_succ, List.replicate_succ, List.flatten_cons, List.flatten_cons])
    exact r.append (RDs.replicate r n)

theorem Ext.refl : Ext J H J H := ⟨rfl, ⟨[], by simp, by simp⟩, fun _ _ _ e => e⟩
theorem Ext.notin (e : Ext J H J' H') {a : Addr} {o : HO} (n : a ∉ J.l) (q : H a = some o) : a ∉ J'.l := by
  obtain ⟨m, hm, f⟩ := e.pre
  rw [hm]
  intro hm
  rcases List.mem_append.mp hm with z | z
  · exact n z
  · rw [f a z] at q; cases q
theorem Ext.get (e : Ext J H J' H') {i : Nat} {a : Addr} (q : J.l[i]? = some a) : J'.l[i]? = some a := by
  obtain ⟨m, hm, _⟩ := e.pre
  have hl : i < J.l.length := (List.getElem?_eq_some_iff.mp q).1
  rw [hm, List.getElem?_append_left hl]; exact q
mutual
theorem RD.ext (e : Ext J H J' H') : ∀ {d : D} {v : V}, RD K J H d v → RD K J' H' d v
  | _, _, .non => .non
  | _, _, .bl b => .bl b
  | _, _, .int i => .int i
  | _, _, .str x => .str x
  | _, _, .tup n m q z r => .tup (e.notin n q) (by rw [e.z]; exact m) (e.keep _ _ n q) z (RDs.ext e r)
  | _, _, .ktup k z r => .ktup k z (RDs.ext e r)
  | _, _, .lst n m q z r => .lst (e.notin n q) (by rw [e.z]; exact m) (e.keep _ _ n q) z (RDs.ext e r)
  | _, _, .ref q => .ref (e.get q)
  | _, _, .fz n m q z r => .fz (e.notin n q) (by rw [e.z]; exact m) (e.keep _ _ n q) z (RDs.ext e r)
  | _, _, .kfz k z r => .kfz k z (RDs.ext e r)
  | _, _, .ft n m q c d z r => .ft (e.notin n q) (by rw [e.z]; exact m) (e.keep _ _ n q) c d z (RDs.ext e r)
theorem RDs.ext (e : Ext J H J' H') : ∀ {ds : List D} {vs : List V}, RDs K J H ds vs → RDs K J' H' ds vs
  | _, _, .nil => .nil
  | _, _, .cons r t => .cons (RD.ext e r) (RDs.ext e t)
end
theorem RO.ext (e : Ext J H J' H') {o : O} {u : HO} (r : RO K J H o u) : RO K J' H' o u := by
  cases r with
  | lst z r => exact .lst z (r.ext e)
  | dct z r => exact .dct z (Paired.mapP r fun p q x => ⟨x.1, x.2.ext e⟩)
/-- the same data under other sets of addresses -/
structure Sub (J : Jn) (H : Hp) (J' : Jn) (H' : Hp) : Prop where
  l : ∀ a o, a ∉ J.l → a ∉ J.z → H a = some o → a ∉ J'.l ∧ a ∉ J'.z ∧ H' a = some o
  get : ∀ (i : Nat) a, J.l[i]? = some a → J'.l[i]? = some a
mutual
theorem RD.sub (e : Sub J H J' H') : ∀ {d : D} {v : V}, RD K J H d v → RD K J' H' d v
  | _, _, .non => .non
  | _, _, .bl b => .bl b
  | _, _, .int i => .int i
  | _, _, .str x => .str x
  | _, _, .tup n m q z r => .tup (e.l _ _ n m q).1 (e.l _ _ n m q).2.1 (e.l _ _ n m q).2.2 z (RDs.sub e r)
  | _, _, .ktup k z r => .ktup k z (RDs.sub e r)
  | _, _, .lst n m q z r => .lst (e.l _ _ n m q).1 (e.l _ _ n m q).2.1 (e.l _ _ n m q).2.2 z (RDs.sub e r)
  | _, _, .ref q => .ref (e.get _ _ q)
  | _, _, .fz n m q z r => .fz (e.l _ _ n m q).1 (e.l _ _ n m q).2.1 (e.l _ _ n m q).2.2 z (RDs.sub e r)
  | _, _, .kfz k z r => .kfz k z (RDs.sub e r)
  | _, _, .ft n m q c d z r => .ft (e.l _ _ n m q).1 (e.l _ _ n m q).2.1 (e.l _ _ n m q).2.2 c d z (RDs.sub e r)
theorem RDs.sub (e : Sub J H J' H') : ∀ {ds : List D} {vs : List V}, RDs K J H ds vs → RDs K J' H' ds vs
  | _, _, .nil => .nil
  | _, _, .cons r t => .cons (RD.sub e r) (RDs.sub e t)
end
theorem RO.sub (e : Sub J H J' H') {o : O} {u : HO} (r : RO K J H o u) : RO K J' H' o u := by
  cases r with
  | lst z r => exact .lst z (r.sub e)
  | dct z r => exact .dct z (Paired.mapP r fun p q x => ⟨x.1, x.2.sub e⟩)
theorem RH.at (r : RH K J h H) {i : Nat} {a : Addr} (q : J.l[i]? = some a) : ∃ o u, h[i]? = some o ∧ H a = some u ∧ RO K J H o u := by
  have hl : i < h.length := by rw [← r.len]; exact (List.getElem?_eq_some_iff.mp q).1
  obtain ⟨a', u, h1, h2, h3⟩ := r.obj i h[i] (List.getElem?_eq_getElem hl)
  rw [q] at h1; cases h1
  exact ⟨_, u, List.getElem?_eq_getElem hl, h2, h3⟩
theorem RH.inl (r : RH K J h H) {a : Addr} (hm : a ∈ J.l) : ∃ u, H a = some u := by
  obtain ⟨i, hi⟩ := List.mem_iff_getElem?.mp hm
  obtain ⟨o, u, _, h2, _⟩ := r.at hi
  exact ⟨u, h2⟩
theorem RH.notin (r : RH K J h H) {a : Addr} (q : H a = none) : a ∉ J.l := fun hm => by
  obtain ⟨u, h2⟩ := r.inl hm
  rw [q] at h2; cases h2
theorem RH.notz (r : RH K J h H) {a : Addr} (q : H a = none) : a ∉ J.z := fun hm => r.zed a hm q
theorem Ext.trans (r : RH K J h H) (r1 : RH K J' h' H') (e : Ext J H J' H') (e2 : Ext J' H' J2 H2) : Ext J H J2 H2 := by
  obtain ⟨m, hm, f⟩ := e.pre
  obtain ⟨m2, hm2, f2⟩ := e2.pre
  refine ⟨e2.z.trans e.z, ⟨m ++ m2, by rw [hm2, hm, List.append_assoc], fun a ha => ?_⟩, fun a o n q => e2.keep a o (e.notin n q) (e.keep a o n q)⟩
  rcases List.mem_append.mp ha with z | z
  · exact f a z
  · cases q : H a with
    | none => rfl
    | some u =>
      exfalso
      by_cases n : a ∈ J.l
      · obtain ⟨u', h2⟩ := r1.inl (a := a) (by rw [hm]; exact List.mem_append_left _ n)
        rw [f2 a z] at h2; cases h2
      · have := e.keep a u n q
        rw [f2 a z] at this; cases this
/-- a new thing that no object holds -/
theorem Ext.laid {p : Addr} {o : HO} (n : H p = none) : Ext J H J (upd H p o) :=
  ⟨rfl, ⟨[], by simp, by simp⟩, fun a u _ q => by rw [upd_ne (ne_of_none q n)]; exact q⟩
theorem RH.laid {p : Addr} {o : HO} (r : RH K J h H) (n : H p = none) : RH K J h (upd H p o) :=
  ⟨r.nd, r.len, fun i ob e => by
    obtain ⟨a, u, h1, h2, h3⟩ := r.obj i ob e
    exact ⟨a, u, h1, by rw [upd_ne (ne_of_none h2 n)]; exact h2, h3.ext (Ext.laid n)⟩, r.apart, fun a ha => by
    by_cases z : a = p
    · subst z; rw [upd_same]; simp
    · rw [upd_ne z]; exact r.zed a ha⟩
/-- a new thing, hidden -/
abbrev Jn.hide (J : Jn) (p : Addr) : Jn := ⟨J.l, p :: J.z⟩
abbrev Jn.own (J : Jn) (p : Addr) : Jn := ⟨J.l ++ [p], J.z⟩
theorem Sub.hide {p : Addr} (n : H p = none) : Sub J H (J.hide p) H :=
  ⟨fun a o x y q => ⟨x, fun hm => (List.mem_cons.mp hm).elim (fun z => by subst z; rw [n] at q; cases q) y, q⟩, fun _ _ q => q⟩
theorem RH.hide {p : Addr} {o : HO} (r : RH K J h H) (n : H p = none) : RH K (J.hide p) h (upd H p o) := by
  have r2 := r.laid (o := o) n
  refine ⟨r.nd, r.len, fun i ob e => ?_, fun a ha => ?_, fun a ha => ?_⟩
  · obtain ⟨a, u, h1, h2, h3⟩ := r.obj i ob e
    exact ⟨a, u, h1, by rw [upd_ne (ne_of_none h2 n)]; exact h2, (h3.sub (Sub.hide n)).ext (Ext.laid n)⟩
  · rcases List.mem_cons.mp ha with z | z
    · subst z; exact r.notin n
    · exact r.apart a z
  · rcases List.mem_cons.mp ha with z | z
    · subst z; rw [upd_same]; simp
    · exact r2.zed a z
/-- a hidden thing is shown -/
theorem Sub.show_ {p : Addr} : Sub (J.hide p) H J H := ⟨fun a o x y q => ⟨x, fun hm => y (List.mem_cons_of_mem _ hm), q⟩, fun _ _ q => q⟩
theorem RH.show_ {p : Addr} (r : RH K (J.hide p) h H) : RH K J h H :=
  ⟨r.nd, r.len, fun i ob e => let ⟨a, u, h1, h2, h3⟩ := r.obj i ob e; ⟨a, u, h1, h2, h3.sub Sub.show_⟩, fun a ha => r.apart a (List.mem_cons_of_mem _ ha), fun a ha => r.zed a (List.mem_cons_of_mem _ ha)⟩
/-- .. becomes an object -/
theorem Sub.own {p : Addr} : Sub (J.hide p) H (J.own p) H :=
  ⟨fun a o x y q => ⟨fun hm => (List.mem_append.mp hm).elim x fun z => y (by simp at z; subst z; exact List.mem_cons_self), fun hm => y (List.mem_cons_of_mem _ hm), q⟩,
   fun i a q => by show (J.l ++ [p])[i]? = _; rw [List.getElem?_append_left (List.getElem?_eq_some_iff.mp q).1]; exact q⟩
theorem RH.own {p : Addr} {o : O} {u : HO} (r : RH K (J.hide p) h H) (np : p ∉ J.z) (q : H p = some u) (ro : RO K (J.hide p) H o u) : RH K (J.own p) (h ++ [o]) H := by
  have n : p ∉ J.l := r.apart p List.mem_cons_self
  refine ⟨?_, by show (J.l ++ [p]).length = _; rw [List.length_append, List.length_append, r.len]; rfl, fun i ob e => ?_, fun a ha hm => ?_, fun a ha => r.zed a (List.mem_cons_of_mem _ ha)⟩
  · show (J.l ++ [p]).Nodup
    exact List.nodup_append.mpr ⟨r.nd, by simp, fun a ha b hb => by simp at hb; rw [hb]; rintro rfl; exact n ha⟩
  · have hll : J.l.length = h.length := r.len
    by_cases hi : i < h.length
    · rw [List.getElem?_append_left hi] at e
      obtain ⟨a, w, h1, h2, h3⟩ := r.obj i ob e
      have h1 : J.l[i]? = some a := h1
      exact ⟨a, w, by show (J.l ++ [p])[i]? = _; rw [List.getElem?_append_left (by omega)]; exact h1, h2, h3.sub Sub.own⟩
    · have hi2 : i = h.length := by
        have := (List.getElem?_eq_some_iff.mp e).1
        simp at this; omega
      subst hi2
      rw [List.getElem?_append_right (Nat.le_refl _)] at e
      simp at e; subst e
      exact ⟨p, u, by show (J.l ++ [p])[_]? = _; rw [← hll, List.getElem?_append_right (Nat.le_refl _)]; simp, q, ro.sub Sub.own⟩
  · rcases List.mem_append.mp hm with z | z
    · exact r.apart a (List.mem_cons_of_mem _ ha) z
    · simp at z; subst z; exact np ha
theorem Ext.own {p : Addr} (n : H p = none) (e : Ext J H J' H') : Ext J H (J'.own p) H' := by
  obtain ⟨m, hm, f⟩ := e.pre
  refine ⟨e.z, ⟨m ++ [p], by show J'.l ++ [p] = _; rw [hm, List.append_assoc], fun a ha => ?_⟩, e.keep⟩
  rcases List.mem_append.mp ha with z | z
  · exact f a z
  · simp at z; rw [z]; exact n
/-- a hidden thing is written -/
theorem Sub.writeZ {p : Addr} {u : HO} (hp : p ∈ J.z) : Sub J H J (upd H p u) :=
  ⟨fun a o x y q => ⟨x, y, by rw [upd_ne (show a ≠ p by rintro rfl; exact y hp)]; exact q⟩, fun _ _ q => q⟩
theorem RH.writeZ {p : Addr} {u : HO} (r : RH K J h H) (hp : p ∈ J.z) : RH K J h (upd H p u) :=
  ⟨r.nd, r.len, fun i ob e => by
    obtain ⟨a, w, h1, h2, h3⟩ := r.obj i ob e
    refine ⟨a, w, h1, ?_, h3.sub (Sub.writeZ hp)⟩
    rw [upd_ne]; exact h2
    rintro rfl; exact r.apart _ hp (List.mem_of_getElem? h1), r.apart, fun a ha => by
    by_cases z : a = p
    · subst z; rw [upd_same]; simp
    · rw [upd_ne z]; exact r.zed a ha⟩
/-- an object written -/
theorem Ext.write {i : Nat} {a : Addr} {u : HO} (q : J.l[i]? = some a) : Ext J H J (upd H a u) :=
  ⟨rfl, ⟨[], by simp, by simp⟩, fun b o n e => by rw [upd_ne]; exact e; rintro rfl; exact n (List.mem_of_getElem? q)⟩
theorem RH.write {i : Nat} {a : Addr} {o : O} {u : HO} (r : RH K J h H) (q : J.l[i]? = some a) (ro : RO K J (upd H a u) o u) : RH K J (h.set i o) (upd H a u) := by
  refine ⟨r.nd, by simp [r.len], fun j ob e => ?_, r.apart, fun b hb => ?_⟩
  · by_cases hj : i = j
    · subst hj
      have hl : i < h.length := by rw [← r.len]; exact (List.getElem?_eq_some_iff.mp q).1
      rw [List.getElem?_set_self hl] at e; cases e
      exact ⟨a, u, q, upd_same, ro⟩
    · rw [List.getElem?_set_ne hj] at e
      obtain ⟨b, w, h1, h2, h3⟩ := r.obj j ob e
      have nb : b ≠ a := by
        rintro rfl
        obtain ⟨l1, e1⟩ := List.getElem?_eq_some_iff.mp q
        obtain ⟨l2, e2⟩ := List.getElem?_eq_some_iff.mp h1
        exact hj ((List.getElem_inj r.nd).mp (e1.trans e2.symm))
      exact ⟨b, w, h1, by rw [upd_ne nb]; exact h2, h3.ext (Ext.write q)⟩
  · rw [upd_ne]; exact r.zed b hb
    rintro rfl; exact r.apart _ hb (List.mem_of_getElem? q)

/-! ### the names -/
structure RE (K : PySem.W.Frag) (J : Jn) (H : Hp) (ρ : Env) (σ : L2.St) : Prop where
  len : ρ.length = σ.length
  get : ∀ (i : Nat) (d : D), ρ[i]? = some (some d) → ∃ v, σ[i]? = some (some v) ∧ RD K J H d v
variable {ρ : Env} {σ : L2.St}
theorem RE.ext (r : RE K J H ρ σ) (e : Ext J H J' H') : RE K J' H' ρ σ := ⟨r.len, fun i d q => let ⟨v, a, b⟩ := r.get i d q; ⟨v, a, b.ext e⟩⟩
theorem RE.set (r : RE K J H ρ σ) (i : Nat) {d : D} {v : V} (x : RD K J H d v) : RE K J H (ρ.set i (some d)) (σ.set i (some v)) := by
  refine ⟨by simp [r.len], fun j e q => ?_⟩
  by_cases hj : i = j
  · subst hj
    have hl : i < ρ.length := by
      have := (List.getElem?_eq_some_iff.mp q).1
      simpa using this
    rw [List.getElem?_set_self hl] at q
    cases q
    exact ⟨v, by rw [List.getElem?_set_self (by rw [← r.len]; exact hl)], x⟩
  · rw [List.getElem?_set_ne hj] at q
    obtain ⟨w, a, b⟩ := r.get j e q
    exact ⟨w, by rw [List.getElem?_set_ne hj]; exact a, b⟩
theorem RE.lose (r : RE K J H ρ σ) (i : Nat) : RE K J H (ρ.set i none) σ := by
  refine ⟨by simp [r.len], fun j e q => ?_⟩
  by_cases hj : i = j
  · subst hj
    by_cases hl : i < ρ.length
    · rw [List.getElem?_set_self hl] at q; cases q
    · rw [List.getElem?_eq_none (by simpa using hl)] at q; cases q
  · rw [List.getElem?_set_ne hj] at q
    exact r.get j e q
end

/-! ### what is wanted behind a piece -/
abbrev RelA (α β : Type) := Jn → Hp → α → β → Prop
def Post (K : PySem.W.Frag) {α β : Type} (J : Jn) (H : Hp) (Rl : RelA α β) (r : R α) (Q : β → Hp → Prop) : Prop := match r with
  | .ok a h' => ∀ J' H' b, Ext J H J' H' → RH K J' h' H' → Rl J' H' a b → Q b H'
  | _ => False
section
variable {K : PySem.W.Frag} {J J' : Jn} {H H' : Hp} {h h' : Hh} {ρ : Env} {σ : L2.St} {α β γ δ : Type}
theorem Post.mono {Rl : RelA α β} {r : R α} {Q Q' : β → Hp → Prop} (p : Post K J H Rl r Q) (f : ∀ b H', Q b H' → Q' b H') : Post K J H Rl r Q' := by
  cases r with
  | ok a h' => exact fun J' H' b e rh rl => f _ _ (p J' H' b e rh rl)
  | bad => exact p
  | err _ _ => exact p
theorem Post.ext {Rl : RelA α β} {r : R α} {Q : β → Hp → Prop} (rh : RH K J h H) (rh' : RH K J' h' H') (e : Ext J H J' H') (p : Post K J H Rl r Q) : Post K J' H' Rl r Q := by
  cases r with
  | ok a h2 => exact fun J2 H2 b e2 rh2 rl => p J2 H2 b (e.trans rh rh' e2) rh2 rl
  | bad => exact p
  | err _ _ => exact p
/-- a reading by an evaluator's function -/
def tG (K : PySem.W.Frag) (Rl : RelA α β) (f : Env → Hh → R α) : L2.St → Hp → (β → Hp → Prop) → Prop := fun σ H Q => ∃ ρ h J, RE K J H ρ σ ∧ RH K J h H ∧ Post K J H Rl (f ρ h) Q
abbrev rD (K : PySem.W.Frag) : RelA D V := RD K
abbrev rDs (K : PySem.W.Frag) : RelA (List D) (List V) := RDs K
abbrev rB : RelA Bool Bool := fun _ _ a b => a = b
/-- step by step -/
theorem Post.step {R1 : RelA α β} {R2 : RelA γ δ} {f : Env → Hh → R α} {g : α → Hh → R γ} {Q : δ → Hp → Prop} (re : RE K J H ρ σ) (rh : RH K J h H) (p : Post K J H R2 ((f ρ h).bind g) Q) :
    tG K R1 f σ H (fun b H1 => ∃ J1 h1 a, Ext J H J1 H1 ∧ RE K J1 H1 ρ σ ∧ RH K J1 h1 H1 ∧ R1 J1 H1 a b ∧ Post K J1 H1 R2 (g a h1) Q) := by
  refine ⟨ρ, h, J, re, rh, ?_⟩
  cases q : f ρ h with
  | ok a h1 =>
    rw [q] at p
    exact fun J1 H1 b e rh1 rl => ⟨J1, h1, a, e, re.ext e, rh1, rl, Post.ext rh rh1 e p⟩
  | bad => rw [q] at p; exact p
  | err _ _ => rw [q] at p; exact p
theorem Post.opt {Rl : RelA α β} {o : Option α} {Q : β → Hp → Prop} (rh : RH K J h H) (p : Post K J H Rl (R.opt o h) Q) : ∃ a, o = some a ∧ ∀ b, Rl J H a b → Q b H := by
  cases o with
  | none => exact False.elim p
  | some a => exact ⟨a, rfl, fun b rl => p J H b Ext.refl rh rl⟩
/-- .. with a further thing laid -/
theorem Post.optX {Rl : RelA α β} {o : Option α} {Q : β → Hp → Prop} (p : Post K J H Rl (R.opt o h) Q) : ∃ a, o = some a ∧ ∀ J' H' b, Ext J H J' H' → RH K J' h H' → Rl J' H' a b → Q b H' := by
  cases o with
  | none => exact False.elim p
  | some a => exact ⟨a, rfl, p⟩
theorem tG.mono {Rl : RelA α β} {f : Env → Hh → R α} {Q Q' : β → Hp → Prop} (p : tG K Rl f σ H Q) (m : ∀ b H', Q b H' → Q' b H') : tG K Rl f σ H Q' :=
  let ⟨ρ, h, J, re, rh, q⟩ := p; ⟨ρ, h, J, re, rh, q.mono m⟩
end
theorem _root_.L2.PE.imp {X : Cx} {e : Expr} {t t' : TE} (h : PE X e t) (i : ∀ σ H Q, t' σ H Q → t σ H Q) : PE X e t' := ⟨fun p s σ H Q I q => h.run p s σ H Q I (i σ H Q q)⟩
theorem _root_.L2.PT.imp {X : Cx} {e : Expr} {t t' : TT} (h : PT X e t) (i : ∀ σ H Q, t' σ H Q → t σ H Q) : PT X e t' := ⟨fun p s σ H Q I q => h.run p s σ H Q I (i σ H Q q)⟩
theorem _root_.L2.PW.imp {X : Cx} {e : Expr} {t t' : TT} (h : PW X e t) (i : ∀ σ H Q, t' σ H Q → t σ H Q) : PW X e t' := ⟨fun w p s σ H Q I q => h.run w p s σ H Q I (i σ H Q q)⟩
theorem _root_.L2.PA.imp {X : Cx} {es : List Expr} {t t' : TA} (h : PA X es t) (i : ∀ σ H Q, t' σ H Q → t σ H Q) : PA X es t' := ⟨fun w p s σ H Q I q => h.run w p s σ H Q I (i σ H Q q)⟩
theorem _root_.L2.PI.imp {X : Cx} {tg e : Expr} {t t' : TI} (h : PI X tg e t) (i : ∀ σ H Q, t' σ H Q → t σ H Q) : PI X tg e t' := ⟨fun p s σ H Q I q => h.run p s σ H Q I (i σ H Q q)⟩
theorem _root_.L2.PG.imp {X : Cx} {e : Expr} {t t' : TG} (h : PG X e t) (i : ∀ v σ H Q, t' v σ H Q → t v σ H Q) : PG X e t' := ⟨fun p s σ H v u Q I r q => h.run p s σ H v u Q I r (i v σ H Q q)⟩
theorem _root_.L2.PS.imp {X : Cx} {e : Stmt} {t t' : TS} (h : PS X e t) (i : ∀ D σ H, t' D σ H → t D σ H) : PS X e t' := ⟨fun p s σ H D I q => h.run p s σ H D I (i D σ H q)⟩
theorem _root_.L2.PSs.imp {X : Cx} {e : List Stmt} {t t' : TS} (h : PSs X e t) (i : ∀ D σ H, t' D σ H → t D σ H) : PSs X e t' := ⟨fun p s σ H D I q => h.run p s σ H D I (i D σ H q)⟩
end PV
end

section
set_option maxRecDepth 100000
namespace PV
open L2 PySem PySem.Spec PyProof.Rows

/-! ### what a value is, by its data -/
section
variable {K : PySem.W.Frag} {J J' : Jn} {H H' : Hp} {h h' : Hh} {d : D} {v : V} {ds : List D} {vs : List V}
theorem size_of {n : Nat} (h : sizeOk n = true) : n ≤ sizeLine := by rw [sizeLine_eq]; exact of_decide_eq_true h
theorem RD.int_inv {i : Int} (r : RD K J H (.int i) v) : v = .int i := by cases r; rfl
theorem RD.bl_inv {b : Bool} (r : RD K J H (.bl b) v) : v = .bl b := by cases r; rfl
theorem RD.str_inv {x : Str} (r : RD K J H (.str x) v) : v = .str x := by cases r; rfl
theorem RD.tup_inv (r : RD K J H (.tup ds) v) : ∃ a vs, v = .ref a ∧ SqT K H a vs ∧ vs.length ≤ sizeLine ∧ RDs K J H ds vs := by
  cases r with
  | tup n m q z r => exact ⟨_, _, rfl, .inl (.inl q), z, r⟩
  | ktup k z r => exact ⟨_, _, rfl, .inr k, z, r⟩
theorem RD.ft_inv (r : RD K J H (.ftup ds) v) : ∃ a vs, v = .ref a ∧ SqT K H a vs ∧ vs.length ≤ sizeLine ∧ RDs K J H ds vs := by
  cases r with
  | ft n m q c d z r => exact ⟨_, _, rfl, .inl (.inr ⟨_, q⟩), z, r⟩
theorem own_inv (rh : RH K J h H) (e : d.own h = some ds) (r : RD K J H d v) : ∃ a vs, v = .ref a ∧ H a = some (.lst vs) ∧ vs.length ≤ sizeLine ∧ RDs K J H ds vs := by
  cases d with
  | lst xs =>
    cases r with
    | lst n m q z r => cases e; exact ⟨_, _, rfl, q, z, r⟩
  | ref i =>
    cases r with
    | ref q =>
      obtain ⟨o, u, h1, h2, h3⟩ := rh.at q
      simp only [D.own, h1] at e
      cases h3 with
      | lst z r => cases e; exact ⟨_, _, rfl, h2, z, r⟩
      | dct z r => cases e
  | _ => cases e
theorem seq_inv (rh : RH K J h H) (e : d.seq h = some ds) (r : RD K J H d v) : ∃ a vs, v = .ref a ∧ (SqL K H a vs ∨ SqT K H a vs) ∧ vs.length ≤ sizeLine ∧ RDs K J H ds vs := by
  cases d with
  | tup xs =>
    cases e
    obtain ⟨a, vs, e1, e2, e3, e4⟩ := r.tup_inv
    exact ⟨a, vs, e1, .inr e2, e3, e4⟩
  | lst xs =>
    cases r with
    | lst n m q z r => cases e; exact ⟨_, _, rfl, .inl (.inl (.inl q)), z, r⟩
  | fz xs =>
    cases r with
    | fz n m q z r => cases e; exact ⟨_, _, rfl, .inl (.inl (.inr ⟨_, q⟩)), z, r⟩
    | kfz k z r => cases e; exact ⟨_, _, rfl, .inl (.inr k), z, r⟩
  | ftup xs =>
    cases r with
    | ft n m q c d z r => cases e; exact ⟨_, _, rfl, .inr (.inl (.inr ⟨_, q⟩)), z, r⟩
  | ref i =>
    cases r with
    | ref q =>
      obtain ⟨o, u, h1, h2, h3⟩ := rh.at q
      simp only [D.seq, h1] at e
      cases h3 with
      | lst z r => cases e; exact ⟨_, _, rfl, .inl (.inl (.inl h2)), z, r⟩
      | dct z r => cases e
  | _ => cases e
/-- a list as it stands -/
theorem res_inv (rh : RH K J h H) (e : d.res h = .lst ds) (r : RD K J H d v) : ∃ a vs, v = .ref a ∧ SqL K H a vs ∧ vs.length ≤ sizeLine ∧ RDs K J H ds vs := by
  cases d with
  | lst xs =>
    cases r with
    | lst n m q z r => cases e; exact ⟨_, _, rfl, .inl (.inl q), z, r⟩
  | fz xs =>
    cases r with
    | fz n m q z r => cases e; exact ⟨_, _, rfl, .inl (.inr ⟨_, q⟩), z, r⟩
    | kfz k z r => cases e; exact ⟨_, _, rfl, .inr k, z, r⟩
  | ref i =>
    cases r with
    | ref q =>
      obtain ⟨o, u, h1, h2, h3⟩ := rh.at q
      simp only [D.res, h1] at e
      cases h3 with
      | lst z r => cases e; exact ⟨_, _, rfl, .inl (.inl h2), z, r⟩
      | dct z r => cases e
  | _ => cases e
theorem res_else {e : D} (h1 : d.res h = e) (h2 : ∀ xs, e ≠ .lst xs) : e = d := by
  cases d with
  | ref i =>
    simp only [D.res] at h1
    split at h1
    · exact absurd h1.symm (h2 _)
    · exact h1.symm
  | fz xs => exact absurd h1.symm (h2 _)
  | _ => exact h1.symm
theorem RD.newTup {p : Addr} (rh : RH K J h H) (n : H p = none) (r : RDs K J H ds vs) (z : vs.length ≤ sizeLine) : RD K J (upd H p (.tup vs)) (.tup ds) (.ref p) :=
  .tup (rh.notin n) (rh.notz n) upd_same z (r.ext (Ext.laid n))
theorem RD.newLst {p : Addr} (rh : RH K J h H) (n : H p = none) (r : RDs K J H ds vs) (z : vs.length ≤ sizeLine) : RD K J (upd H p (.lst vs)) (.lst ds) (.ref p) :=
  .lst (rh.notin n) (rh.notz n) upd_same z (r.ext (Ext.laid n))
end

/-! ### data as the library's data -/
mutual
theorem lay_py : ∀ d : D, d.lay = true → d.py.canLay0 = true
  | .non, _ => by simp only [D.py, PyData.canLay0]
  | .bl _, _ => by simp only [D.py, PyData.canLay0]
  | .int _, _ => by simp only [D.py, PyData.canLay0]
  | .str x, h => by simpa only [D.py, PyData.canLay0, D.lay] using h
  | .tup xs, h => by simp only [D.py, PyData.canLay0]; exact lays_pys xs (by simpa only [D.lay] using h)
  | .lst xs, h => by simp only [D.py, PyData.canLay0]; exact lays_pys xs (by simpa only [D.lay] using h)
  | .ref _, h => by simp [D.lay] at h
  | .fz _, h => by simp [D.lay] at h
  | .ftup _, h => by simp [D.lay] at h
theorem lays_pys : ∀ xs : List D, D.lays xs = true → PyData.canLayAll0 (D.pys xs) = true
  | [], _ => by simp only [D.pys, PyData.canLayAll0]
  | x :: xs, h => by
    simp only [D.lays, Bool.and_eq_true] at h
    simp only [D.pys, PyData.canLayAll0, lay_py x h.1, lays_pys xs h.2, Bool.and_self]
end
mutual
theorem dep_py : ∀ d : D, d.lay = true → d.py.depth = d.dep
  | .non, _ => by simp only [D.py, PyData.depth, D.dep]
  | .bl _, _ => by simp only [D.py, PyData.depth, D.dep]
  | .int _, _ => by simp only [D.py, PyData.depth, D.dep]
  | .str x, h => by simp only [D.py, PyData.depth, D.dep]
  | .tup xs, h => by simp only [D.py, PyData.depth, D.dep]; rw [deps_pys xs (by simpa only [D.lay] using h)]
  | .lst xs, h => by simp only [D.py, PyData.depth, D.dep]; rw [deps_pys xs (by simpa only [D.lay] using h)]
  | .ref _, h => by simp [D.lay] at h
  | .fz _, h => by simp [D.lay] at h
  | .ftup _, h => by simp [D.lay] at h
theorem deps_pys : ∀ xs : List D, D.lays xs = true → PyData.depthAll (D.pys xs) = D.deps xs
  | [], _ => by simp only [D.pys, PyData.depthAll, D.deps]
  | x :: xs, h => by
    simp only [D.lays, Bool.and_eq_true] at h
    simp only [D.pys, PyData.depthAll, D.deps, dep_py x h.1, deps_pys xs h.2]
end
theorem shp_py {d : D} (h : d.shp = true) : SeqAt.shaped d.py = true := by
  simp only [D.shp, Bool.and_eq_true, decide_eq_true_eq] at h
  show (PyData.canLay0 d.py && decide (d.py.depth ≤ 64)) = true
  rw [lay_py d h.1, dep_py d h.1, decide_eq_true h.2]; rfl
theorem shp_lay {d : D} (h : d.shp = true) : d.lay = true := by
  simp only [D.shp, Bool.and_eq_true] at h
  exact h.1
theorem str_eqb (x y : Str) : (x == y) = decide (x = y) := by
  by_cases e : x = y
  · subst e; simp
  · rw [decide_eq_false e]; exact beq_eq_false_iff_ne.mpr e
mutual
theorem eqv_py : ∀ d e : D, d.lay = true → e.lay = true → PyData.eqv d.py e.py = D.eqv d e
  | .non, e, _, he => by cases e <;> first | (simp only [D.py, PyData.eqv, D.eqv]; done) | (simp [D.lay] at he; done)
  | .bl _, e, _, he => by cases e <;> first | (simp only [D.py, PyData.eqv, D.eqv]; done) | (simp [D.lay] at he; done)
  | .int _, e, _, he => by cases e <;> first | (simp only [D.py, PyData.eqv, D.eqv]; done) | (simp [D.lay] at he; done)
  | .str x, e, _, he => by cases e <;> first | (simp only [D.py, PyData.eqv, D.eqv, str_eqb]; done) | (simp [D.lay] at he; done)
  | .tup xs, e, hd, he => by
    cases e with
    | tup ys => simp only [D.py, PyData.eqv, D.eqv]; exact eqvs_pys xs ys (by simpa only [D.lay] using hd) (by simpa only [D.lay] using he)
    | ref _ => simp [D.lay] at he
    | fz _ => simp [D.lay] at he
    | ftup _ => simp [D.lay] at he
    | _ => simp only [D.py, PyData.eqv, D.eqv]
  | .lst xs, e, hd, he => by
    cases e with
    | lst ys => simp only [D.py, PyData.eqv, D.eqv]; exact eqvs_pys xs ys (by simpa only [D.lay] using hd) (by simpa only [D.lay] using he)
    | ref _ => simp [D.lay] at he
    | fz _ => simp [D.lay] at he
    | ftup _ => simp [D.lay] at he
    | _ => simp only [D.py, PyData.eqv, D.eqv]
  | .ref _, _, h, _ => by simp [D.lay] at h
  | .fz _, _, h, _ => by simp [D.lay] at h
  | .ftup _, _, h, _ => by simp [D.lay] at h
theorem eqvs_pys : ∀ xs ys : List D, D.lays xs = true → D.lays ys = true → PyData.eqvAll (D.pys xs) (D.pys ys) = D.eqvs xs ys
  | [], [], _, _ => by simp only [D.pys, PyData.eqvAll, D.eqvs]
  | [], y :: ys, _, _ => by simp only [D.pys, PyData.eqvAll, D.eqvs]
  | x :: xs, [], _, _ => by simp only [D.pys, PyData.eqvAll, D.eqvs]
  | x :: xs, (y :: ys), h, h' => by
    simp only [D.lays, Bool.and_eq_true] at h h'
    simp only [D.pys, PyData.eqvAll, D.eqvs, eqv_py x y h.1 h'.1, eqvs_pys xs ys h.2 h'.2]
end
section
variable {K : PySem.W.Frag} {J : Jn} {H : Hp} {h : Hh}
mutual
theorem RD.dp : ∀ (d : D) (v : V), d.lay = true → RD K J H d v → Dp K H v d.py
  | .non, _, _, r => by cases r; simp only [D.py]; exact .non
  | .bl b, _, _, r => by cases r; simp only [D.py]; exact .bl b
  | .int i, _, _, r => by cases r; simp only [D.py]; exact .int i
  | .str x, _, _, r => by cases r; simp only [D.py]; exact .str x
  | .tup xs, _, l, r => by
    obtain ⟨a, vs, rfl, hq, z, rs⟩ := r.tup_inv
    simp only [D.py]; exact .tup hq (RDs.dp xs vs (by simpa only [D.lay] using l) rs)
  | .lst xs, _, l, r => by
    cases r with
    | lst n m q z rs => simp only [D.py]; exact .lst (.inl (.inl q)) (RDs.dp xs _ (by simpa only [D.lay] using l) rs)
  | .ref _, _, l, _ => by simp [D.lay] at l
  | .fz _, _, l, _ => by simp [D.lay] at l
  | .ftup _, _, l, _ => by simp [D.lay] at l
theorem RDs.dp : ∀ (ds : List D) (vs : List V), D.lays ds = true → RDs K J H ds vs → DpAll K H vs (D.pys ds)
  | [], _, _, r => by cases r; simp only [D.pys]; exact .nil
  | d :: ds, _, l, r => by
    simp only [D.lays, Bool.and_eq_true] at l
    cases r with | cons a b => simp only [D.pys]; exact .cons (RD.dp d _ l.1 a) (RDs.dp ds _ l.2 b)
end
theorem res_dp {d : D} {v : V} (rh : RH K J h H) (l : (d.res h).lay = true) (r : RD K J H d v) : Dp K H v (d.res h).py := by
  cases e : d.res h with
  | lst xs =>
    obtain ⟨a, vs, rfl, hq, z, rs⟩ := res_inv rh e r
    rw [e] at l
    simp only [D.py]; exact .lst hq (RDs.dp xs vs (by simpa only [D.lay] using l) rs)
  | _ =>
    have e2 := res_else e (fun xs z => by cases z)
    rw [e] at l
    subst e2
    exact RD.dp _ v l r
end

/-! ### operators -/
def rOp (K : PySem.W.Frag) (f : Hh → D → D → Option D) : R2 := fun x y H Q => ∃ J h dx dy d, RH K J h H ∧ RD K J H dx x ∧ RD K J H dy y ∧ f h dx dy = some d ∧ ∀ J' H' v, Ext J H J' H' → RH K J' h H' → RD K J' H' d v → Q v H'
def rCmp (K : PySem.W.Frag) (f : Hh → D → D → Option Bool) : R2 := fun x y H Q => ∃ J h dx dy b, RH K J h H ∧ RD K J H dx x ∧ RD K J H dy y ∧ f h dx dy = some b ∧ Q (.bl b) H
section
variable {X : Cx}
theorem ops_add : OpR X (binaryOp .Add) (rOp X.K (opBin .add)) := by
  intro pins s σ H x y v u Q I rx ry ⟨J, h, dx, dy, d, rh, r1, r2, e, q⟩
  simp only [opBin] at e
  split at e
  · cases r1; cases r2; cases e
    exact op_add pins s σ H _ _ v u Q I rx ry ⟨_, _, rfl, rfl, q _ _ _ Ext.refl rh (.int _)⟩
  · cases r1; cases r2
    split at e
    · rename_i hz; cases e
      exact op_add_str pins s σ H _ _ v u Q I rx ry ⟨_, _, rfl, rfl, size_of hz, q _ _ _ Ext.refl rh (.str _)⟩
    · cases e
  · split at e
    · rename_i xs ys hz; cases e
      obtain ⟨a, vs, rfl, ha, za, ra⟩ := r1.tup_inv
      obtain ⟨b, ws, rfl, hb, zb, rb⟩ := r2.tup_inv
      have hlen : vs.length + ws.length ≤ sizeLine := by rw [← ra.length, ← rb.length]; exact size_of hz
      refine op_catA pins s σ H _ _ v u Q I rx ry ⟨a, b, vs, ws, rfl, rfl, ha, hb, hlen, fun e => ?_, fun _ e => ?_, fun _ _ p np => ?_⟩
      · subst e; cases ra; exact q _ _ _ Ext.refl rh (by simpa using r2)
      · subst e; cases rb; exact q _ _ _ Ext.refl rh (by simpa using r1)
      · exact q _ _ _ (Ext.laid np) (rh.laid np) (RD.newTup rh np (ra.append rb) (by rw [List.length_append]; exact hlen))
    · cases e
  · split at e
    · rename_i e1 e2
      split at e
      · rename_i hz; cases e
        obtain ⟨a, vs, rfl, ha, za, ra⟩ := own_inv rh e1 r1
        obtain ⟨b, ws, rfl, hb, zb, rb⟩ := own_inv rh e2 r2
        have hlen : vs.length + ws.length ≤ sizeLine := by rw [← ra.length, ← rb.length]; exact size_of hz
        exact op_cat pins s σ H _ _ v u Q I rx ry ⟨a, b, vs, ws, rfl, rfl, ha, hb, hlen, fun p np =>
          q _ _ _ (Ext.laid np) (rh.laid np) (RD.newLst rh np (ra.append rb) (by rw [List.length_append]; exact hlen))⟩
      · cases e
    · cases e
theorem ops_sub : OpR X (binaryOp .Sub) (rOp X.K (opBin .sub)) := by
  intro pins s σ H x y v u Q I rx ry ⟨J, h, dx, dy, d, rh, r1, r2, e, q⟩
  simp only [opBin] at e
  split at e
  · cases r1; cases r2; cases e
    exact op_sub pins s σ H _ _ v u Q I rx ry ⟨_, _, rfl, rfl, q _ _ _ Ext.refl rh (.int _)⟩
  · cases e
theorem ops_mul : OpR X (binaryOp .Mult) (rOp X.K (opBin .mul)) := by
  intro pins s σ H x y v u Q I rx ry ⟨J, h, dx, dy, d, rh, r1, r2, e, q⟩
  simp only [opBin] at e
  split at e
  · cases r1; cases r2
    split at e
    · rename_i hz; cases e
      simp only [mulOk, Bool.or_eq_true] at hz
      rcases hz with (hz | hz) | hz
      · exact op_mulW pins s σ H _ _ v u Q I rx ry ⟨_, _, rfl, rfl, (show CMulW _ _ from of_decide_eq_true (p := _ < 1000000) hz), q _ _ _ Ext.refl rh (.int _)⟩
      · exact op_mul pins s σ H _ _ v u Q I rx ry ⟨_, _, rfl, rfl, .inl (of_decide_eq_true hz), q _ _ _ Ext.refl rh (.int _)⟩
      · exact op_mul pins s σ H _ _ v u Q I rx ry ⟨_, _, rfl, rfl, .inr (of_decide_eq_true hz), q _ _ _ Ext.refl rh (.int _)⟩
    · cases e
  · split at e
    · rename_i e1
      split at e
      · rename_i j _ _ _ hz
        cases e
        obtain ⟨a, vs, rfl, ha, za, ra⟩ := own_inv rh e1 r1
        cases r2
        obtain ⟨h0, h1, h2⟩ := hz
        have hlen : vs.length * j.toNat ≤ sizeLine := by rw [← ra.length]; exact size_of h2
        refine op_rep pins s σ H _ _ v u Q I rx ry ⟨a, j, vs, rfl, rfl, ha, by omega, by omega, hlen, fun p np =>
          q _ _ _ (Ext.laid np) (rh.laid np) (RD.newLst rh np (ra.replicate _) ?_)⟩
        rw [List.length_flatten]; simp; rw [Nat.mul_comm]; exact hlen
      · cases e
    · cases e
  · cases e
theorem ops_fdiv : OpR X (binaryOp .FloorDiv) (rOp X.K (opBin .fdiv)) := by
  intro pins s σ H x y v u Q I rx ry ⟨J, h, dx, dy, d, rh, r1, r2, e, q⟩
  simp only [opBin] at e
  split at e
  · cases r1; cases r2
    split at e
    · rename_i hz; cases e
      exact op_fdiv pins s σ H _ _ v u Q I rx ry ⟨_, _, rfl, rfl, hz, q _ _ _ Ext.refl rh (.int _)⟩
    · cases e
  · cases e
theorem ops_mod : OpR X (binaryOp .Mod) (rOp X.K (opBin .mod)) := by
  intro pins s σ H x y v u Q I rx ry ⟨J, h, dx, dy, d, rh, r1, r2, e, q⟩
  simp only [opBin] at e
  split at e
  · cases r1; cases r2
    split at e
    · rename_i hz; cases e
      exact op_mod pins s σ H _ _ v u Q I rx ry ⟨_, _, rfl, rfl, hz, q _ _ _ Ext.refl rh (.int _)⟩
    · cases e
  · cases e
theorem ops_pow : OpR X (binaryOp .Pow) (rOp X.K (opBin .pow)) := by
  intro pins s σ H x y v u Q I rx ry ⟨J, h, dx, dy, d, rh, r1, r2, e, q⟩
  simp only [opBin] at e
  split at e
  · cases r1; cases r2
    split at e
    · rename_i hz; cases e
      simp only [powOk, Bool.and_eq_true, decide_eq_true_eq] at hz
      exact op_pow pins s σ H _ _ v u Q I rx ry ⟨_, _, rfl, rfl, ⟨hz.1.1, hz.1.2, hz.2⟩, q _ _ _ Ext.refl rh (.int _)⟩
    · cases e
  · cases e

/-! ### comparisons -/
theorem dec_strD {a b : Str} : decide (V.str a = V.str b) = decide (a = b) := decide_eq_decide.mpr ⟨V.str.inj, fun z => by rw [z]⟩
theorem ops_eq (hu : X.A.units + 64 < cLine) : OpR X (compareOp .Eq) (rCmp X.K (opCmp .eq)) := by
  intro pins s σ H x y v u Q I rx ry ⟨J, h, dx, dy, d, rh, r1, r2, e, q⟩
  simp only [opCmp] at e
  unfold opEq at e
  split at e
  · cases r1; cases r2; cases e
    exact op_eq pins s σ H _ _ v u Q I rx ry ⟨rfl, by rw [dec_strD]; exact q⟩
  · split at e
    · rename_i hz; cases e
      rw [Bool.and_eq_true] at hz
      have l1 := shp_lay hz.1
      have l2 := shp_lay hz.2
      exact op_eqD hu pins s σ H _ _ v u Q I rx ry ⟨_, _, res_dp rh l1 r1, res_dp rh l2 r2, shp_py hz.1, shp_py hz.2, by rw [eqv_py _ _ l1 l2]; exact q⟩
    · cases e
theorem ops_ne (hu : X.A.units + 64 < cLine) : OpR X (compareOp .NotEq) (rCmp X.K (opCmp .ne)) := by
  intro pins s σ H x y v u Q I rx ry ⟨J, h, dx, dy, d, rh, r1, r2, e, q⟩
  simp only [opCmp, Option.map_eq_some_iff] at e
  obtain ⟨d, e, rfl⟩ := e
  unfold opEq at e
  split at e
  · cases r1; cases r2; cases e
    exact op_ne pins s σ H _ _ v u Q I rx ry ⟨rfl, by rw [dec_strD]; exact q⟩
  · split at e
    · rename_i hz; cases e
      rw [Bool.and_eq_true] at hz
      have l1 := shp_lay hz.1
      have l2 := shp_lay hz.2
      exact op_neD hu pins s σ H _ _ v u Q I rx ry ⟨_, _, res_dp rh l1 r1, res_dp rh l2 r2, shp_py hz.1, shp_py hz.2, by rw [eqv_py _ _ l1 l2]; exact q⟩
    · cases e
theorem ops_lt : OpR X (compareOp .Lt) (rCmp X.K (opCmp .lt)) := by
  intro pins s σ H x y v u Q I rx ry ⟨J, h, dx, dy, d, rh, r1, r2, e, q⟩
  simp only [opCmp] at e
  split at e
  · cases r1; cases r2; cases e
    exact op_lt pins s σ H _ _ v u Q I rx ry ⟨_, _, rfl, rfl, q⟩
  · cases e
theorem ops_le : OpR X (compareOp .LtE) (rCmp X.K (opCmp .le)) := by
  intro pins s σ H x y v u Q I rx ry ⟨J, h, dx, dy, d, rh, r1, r2, e, q⟩
  simp only [opCmp] at e
  split at e
  · cases r1; cases r2; cases e
    exact op_le pins s σ H _ _ v u Q I rx ry ⟨_, _, rfl, rfl, q⟩
  · cases e
theorem ops_gt : OpR X (compareOp .Gt) (rCmp X.K (opCmp .gt)) := by
  intro pins s σ H x y v u Q I rx ry ⟨J, h, dx, dy, d, rh, r1, r2, e, q⟩
  simp only [opCmp] at e
  split at e
  · cases r1; cases r2; cases e
    exact op_gt pins s σ H _ _ v u Q I rx ry ⟨_, _, rfl, rfl, q⟩
  · cases e
theorem ops_ge : OpR X (compareOp .GtE) (rCmp X.K (opCmp .ge)) := by
  intro pins s σ H x y v u Q I rx ry ⟨J, h, dx, dy, d, rh, r1, r2, e, q⟩
  simp only [opCmp] at e
  split at e
  · cases r1; cases r2; cases e
    exact op_ge pins s σ H _ _ v u Q I rx ry ⟨_, _, rfl, rfl, q⟩
  · cases e
theorem is_blD {K : PySem.W.Frag} {J : Jn} {H : Hp} {d : D} {x : V} {v : Value} {b : Bool} {M : Model} {A : Around} {E : Value → Shared → Prop} {s : Shared} {Q : Value → Shared → Prop} (r : RD K J H d x) (rx : L2.RelV x v) (h : Q (.bool (d.eqBl b)) s) :
    wpAny M A (compareOp .Is v (.bool b)) Q E s := by
  cases r with
  | non => cases (show v = Value.none from rx); exact wpAny_pure h
  | bl a => cases (show v = Value.bool a from rx); exact is_bool h
  | int i => obtain ⟨t, rfl⟩ := (show ∃ t, v = Value.int i t from rx); exact wpAny_pure h
  | str i => obtain ⟨t, rfl⟩ := (show ∃ t, v = Value.str i t from rx); exact wpAny_pure h
  | tup n m q z r => cases (show v = Value.ref _ from rx); exact wpAny_pure h
  | ktup k z r => cases (show v = Value.ref _ from rx); exact wpAny_pure h
  | lst n m q z r => cases (show v = Value.ref _ from rx); exact wpAny_pure h
  | ref q => cases (show v = Value.ref _ from rx); exact wpAny_pure h
  | fz n m q z r => cases (show v = Value.ref _ from rx); exact wpAny_pure h
  | kfz k z r => cases (show v = Value.ref _ from rx); exact wpAny_pure h
  | ft n m q c d z r => cases (show v = Value.ref _ from rx); exact wpAny_pure h
theorem isn_blD {K : PySem.W.Frag} {J : Jn} {H : Hp} {d : D} {x : V} {v : Value} {b : Bool} {M : Model} {A : Around} {E : Value → Shared → Prop} {s : Shared} {Q : Value → Shared → Prop} (r : RD K J H d x) (rx : L2.RelV x v) (h : Q (.bool (!d.eqBl b)) s) :
    wpAny M A (compareOp .IsNot v (.bool b)) Q E s := by
  cases r with
  | non => cases (show v = Value.none from rx); exact wpAny_pure h
  | bl a => cases (show v = Value.bool a from rx); cases a <;> cases b <;> exact wpAny_pure h
  | int i => obtain ⟨t, rfl⟩ := (show ∃ t, v = Value.int i t from rx); exact wpAny_pure h
  | str i => obtain ⟨t, rfl⟩ := (show ∃ t, v = Value.str i t from rx); exact wpAny_pure h
  | tup n m q z r => cases (show v = Value.ref _ from rx); exact wpAny_pure h
  | ktup k z r => cases (show v = Value.ref _ from rx); exact wpAny_pure h
  | lst n m q z r => cases (show v = Value.ref _ from rx); exact wpAny_pure h
  | ref q => cases (show v = Value.ref _ from rx); exact wpAny_pure h
  | fz n m q z r => cases (show v = Value.ref _ from rx); exact wpAny_pure h
  | kfz k z r => cases (show v = Value.ref _ from rx); exact wpAny_pure h
  | ft n m q c d z r => cases (show v = Value.ref _ from rx); exact wpAny_pure h
theorem is_nonD {K : PySem.W.Frag} {J : Jn} {H : Hp} {d : D} {x : V} (r : RD K J H d x) : decide (x = .non) = d.isNon := by
  cases r <;> first | rfl | (exact decide_eq_false (fun z => by cases z))
theorem ops_is : OpR X (compareOp .Is) (rCmp X.K (opCmp .is)) := by
  intro pins s σ H x y v u Q I rx ry ⟨J, h, dx, dy, d, rh, r1, r2, e, q⟩
  simp only [opCmp] at e
  split at e
  · cases r2; cases e
    exact op_isN pins s σ H _ _ v u Q I rx ry ⟨rfl, by rw [is_nonD r1]; exact q⟩
  · cases r2; cases e
    cases (show u = Value.bool _ from ry)
    exact is_blD r1 rx ⟨.bl _, H, I, rfl, q⟩
  · cases e
theorem ops_isn : OpR X (compareOp .IsNot) (rCmp X.K (opCmp .isn)) := by
  intro pins s σ H x y v u Q I rx ry ⟨J, h, dx, dy, d, rh, r1, r2, e, q⟩
  simp only [opCmp] at e
  split at e
  · cases r2; cases e
    exact op_notN pins s σ H _ _ v u Q I rx ry ⟨rfl, by rw [is_nonD r1]; exact q⟩
  · cases r2; cases e
    cases (show u = Value.bool _ from ry)
    exact isn_blD r1 rx ⟨.bl _, H, I, rfl, q⟩
  · cases e
end
end PV
end

section
set_option maxRecDepth 100000
namespace PV
open L2 PySem PySem.Spec PyProof.Rows

section
variable {K : PySem.W.Frag} {J J' : Jn} {H H' : Hp} {h h' : Hh} {d : D} {v : V} {ds : List D} {vs : List V}
/-! ### dicts -/
theorem valD_rel {kvs : List (Key × D)} {kws : List (Key × V)} (r : Paired (fun p q => p.1 = q.1 ∧ RD K J H p.2 q.2) kvs kws) (k : Key) :
    (valD kvs k = none ∧ valV kws k = none) ∨ ∃ d v, valD kvs k = some d ∧ valV kws k = some v ∧ RD K J H d v := by
  induction r with
  | nil => exact (.inl ⟨rfl, rfl⟩)
  | @cons p q ps qs x t ih =>
    by_cases e : p.1 = k
    · refine .inr ⟨p.2, q.2, ?_, ?_, x.2⟩
      · simp [valD, List.find?_cons, e]
      · exact valV_pos (x.1 ▸ e)
    · have e2 : ¬ q.1 = k := by rw [← x.1]; exact e
      rw [valV_neg e2, show valD (p :: ps) k = valD ps k by simp [valD, List.find?_cons, e]]
      exact ih
theorem key_inv {k : Key} (e : d.key = some k) (r : RD K J H d v) : v = kV k := by
  cases d with
  | int i => cases e; cases r; rfl
  | str x => cases e; cases r; rfl
  | _ => cases e
theorem any_py {x : D} : ∀ {ys : List D}, D.lays ys = true → x.lay = true → ((D.pys ys).any fun z => PyData.eqv z x.py) = ys.any fun y => y.eqv x
  | [], _, _ => rfl
  | y :: ys, h, hx => by
    simp only [D.lays, Bool.and_eq_true] at h
    simp only [D.pys, List.any_cons, eqv_py y x h.1 hx, any_py h.2 hx]
end
section
variable {X : Cx}
theorem ops_inCore (hu : X.A.units + 65 < cLine) {pins : List (Addr × Obj)} {s : Shared} {σ : L2.St} {H : Hp} {x y : V} {v u : Value} {b : Bool} {J : Jn} {h : Hh} {dx dy : D} (I : Inv X pins σ H s) (rx : L2.RelV x v) (ry : L2.RelV y u)
    (rh : RH X.K J h H) (r1 : RD X.K J H dx x) (r2 : RD X.K J H dy y) (e : opIn h dx dy = some b) :
    (∀ Q : VK, Q (.bl b) H → wpAny (model X.prog X.w) X.A (compareOp .In v u) (EP X pins σ Q) X.xe s) ∧
    (∀ Q : VK, Q (.bl (!b)) H → wpAny (model X.prog X.w) X.A (compareOp .NotIn v u) (EP X pins σ Q) X.xe s) := by
  have lists : ∀ (p : Addr) (ws : List V) (ys : List D), y = .ref p → SqL X.K H p ws → RDs X.K J H ys ws → (if dx.shp && (D.lst ys).shp then some (ys.any fun z => z.eqv dx) else none) = some b →
      (∀ Q : VK, Q (.bl b) H → wpAny (model X.prog X.w) X.A (compareOp .In v u) (EP X pins σ Q) X.xe s) ∧
      (∀ Q : VK, Q (.bl (!b)) H → wpAny (model X.prog X.w) X.A (compareOp .NotIn v u) (EP X pins σ Q) X.xe s) := by
    intro p ws ys ey hq rr e
    split at e
    · rename_i hz; cases e
      rw [Bool.and_eq_true] at hz
      have l1 := shp_lay hz.1
      have l2 : D.lays ys = true := by have := shp_lay hz.2; simpa only [D.lay] using this
      have sp : SeqAt.shaped (.list (D.pys ys)) = true := by have := shp_py hz.2; simpa only [D.py] using this
      have dl : Dp X.K H y (.list (D.pys ys)) := by rw [ey]; exact .lst hq (RDs.dp ys ws l2 rr)
      constructor
      · intro Q q
        exact op_inD hu pins s σ H x y v u Q I rx ry ⟨dx.py, D.pys ys, RD.dp dx x l1 r1, dl, shp_py hz.1, sp, by rw [any_py l2 l1]; exact q⟩
      · intro Q q
        exact op_notInD hu pins s σ H x y v u Q I rx ry ⟨dx.py, D.pys ys, RD.dp dx x l1 r1, dl, shp_py hz.1, sp, by rw [any_py l2 l1]; exact q⟩
    · cases e
  unfold opIn at e
  split at e
  · split at e
    · rename_i i ys hys
      cases r2 with
      | ref q =>
        obtain ⟨o, w, h1, h2, h3⟩ := rh.at q
        rw [hys] at h1; cases h1
        cases h3 with
        | lst z r => exact lists _ _ _ rfl (.inl (.inl h2)) r e
    · rename_i i kvs hys
      cases r2 with
      | ref q =>
        obtain ⟨o, w, h1, h2, h3⟩ := rh.at q
        rw [hys] at h1; cases h1
        cases h3 with
        | @dct _ kws z r =>
          split at e
          · rename_i k hk; cases e
            obtain rfl := key_inv hk r1
            cases (show u = Value.ref _ from ry)
            have g := DGet.k (k := k) h2
            have eb : (valV kws k).isSome = hasKey k kvs := by
              unfold hasKey
              rcases valD_rel r k with ⟨a, b⟩ | ⟨d, v, a, b, _⟩ <;> rw [a, b] <;> rfl
            rw [← eb]
            exact ⟨fun Q q => d_in (by omega) I g rx fun s' I' => ⟨.bl _, H, I', rfl, q⟩, fun Q q => d_notIn (by omega) I g rx fun s' I' => ⟨.bl _, H, I', rfl, q⟩⟩
          · cases e
    · cases e
  · cases r2 with
    | lst n m q z r => exact lists _ _ _ rfl (.inl (.inl q)) r e
  · obtain ⟨p, ws, ey, hq, z, rr⟩ := r2.tup_inv
    split at e
    · rename_i ys hz; cases e
      rw [Bool.and_eq_true] at hz
      have l1 := shp_lay hz.1
      have l2 : D.lays ys = true := by have := shp_lay hz.2; simpa only [D.lay] using this
      have sp : SeqAt.shaped (.tuple (D.pys ys)) = true := by have := shp_py hz.2; simpa only [D.py] using this
      have dl : Dp X.K H y (.tuple (D.pys ys)) := by rw [ey]; exact .tup hq (RDs.dp ys ws l2 rr)
      obtain ⟨as, q1⟩ := Dp.reads I dx.py x v (RD.dp dx x l1 r1) rx
      obtain ⟨bs, q2⟩ := Dp.reads I (.tuple (D.pys ys)) y u dl ry
      have ll : PyData.canLayAll0 (D.pys ys) = true := lays_pys ys l2
      constructor
      · intro Q q
        exact SeqAt.in_tuple_reads q2 q1 ll (lay_py dx l1) (room_in_shaped (shp_py hz.1) hu) ⟨.bl _, H, I, rfl, by rw [any_py l2 l1]; exact q⟩
      · intro Q q
        exact SeqAt.notIn_tuple_reads q2 q1 ll (lay_py dx l1) (room_in_shaped (shp_py hz.1) hu) ⟨.bl _, H, I, rfl, by rw [any_py l2 l1]; exact q⟩
    · cases e
  · obtain ⟨p, ws, ey, hq, z, rr⟩ := r2.ft_inv
    split at e
    · rename_i ys hz; cases e
      rw [Bool.and_eq_true] at hz
      have l1 := shp_lay hz.1
      have l2 : D.lays ys = true := by have := shp_lay hz.2; simpa only [D.lay] using this
      have sp : SeqAt.shaped (.tuple (D.pys ys)) = true := by have := shp_py hz.2; simpa only [D.py] using this
      have dl : Dp X.K H y (.tuple (D.pys ys)) := by rw [ey]; exact .tup hq (RDs.dp ys ws l2 rr)
      obtain ⟨as, q1⟩ := Dp.reads I dx.py x v (RD.dp dx x l1 r1) rx
      obtain ⟨bs, q2⟩ := Dp.reads I (.tuple (D.pys ys)) y u dl ry
      have ll : PyData.canLayAll0 (D.pys ys) = true := lays_pys ys l2
      constructor
      · intro Q q
        exact SeqAt.in_tuple_reads q2 q1 ll (lay_py dx l1) (room_in_shaped (shp_py hz.1) hu) ⟨.bl _, H, I, rfl, by rw [any_py l2 l1]; exact q⟩
      · intro Q q
        exact SeqAt.notIn_tuple_reads q2 q1 ll (lay_py dx l1) (room_in_shaped (shp_py hz.1) hu) ⟨.bl _, H, I, rfl, by rw [any_py l2 l1]; exact q⟩
    · cases e
  · cases e
theorem ops_in (hu : X.A.units + 65 < cLine) : OpR X (compareOp .In) (rCmp X.K (opCmp .inn)) := by
  intro pins s σ H x y v u Q I rx ry ⟨J, h, dx, dy, d, rh, r1, r2, e, q⟩
  exact (ops_inCore hu I rx ry rh r1 r2 e).1 Q q
theorem ops_nin (hu : X.A.units + 65 < cLine) : OpR X (compareOp .NotIn) (rCmp X.K (opCmp .nin)) := by
  intro pins s σ H x y v u Q I rx ry ⟨J, h, dx, dy, d, rh, r1, r2, e, q⟩
  simp only [opCmp, Option.map_eq_some_iff] at e
  obtain ⟨d, e, rfl⟩ := e
  exact (ops_inCore hu I rx ry rh r1 r2 e).2 Q q

/-! ### subscripts, slices -/
theorem atI_rel {K : PySem.W.Frag} {J : Jn} {H : Hp} {ds : List D} {vs : List V} {i : Int} {d : D} (r : RDs K J H ds vs) (e : atI ds i = some d) : ∃ v, atI vs i = some v ∧ RD K J H d v := by
  unfold atI at e ⊢
  rw [r.length] at e
  cases q : ixN vs.length i with
  | none => (rw [q] at e; cases e)
  | some j => rw [q] at e; exact r.get e
theorem ix_all (hu : X.A.units + 1 < cLine) : IxR X (rOp X.K opIdx) := by
  intro value slice pins s σ H x y v u Q I rx ry ⟨J, h, dx, dy, d, rh, r1, r2, e, q⟩ hs
  have lists : ∀ (p : Addr) (ws : List V) (ys : List D) (i : Int), x = .ref p → y = .int i → SqL X.K H p ws → RDs X.K J H ys ws → atI ys i = some d →
      wpAny (model X.prog X.w) X.A (subscriptTail value slice v u) (EP X pins σ Q) X.xe s := by
    intro p ws ys i ex ey hq rr e
    obtain ⟨w, hw, rw'⟩ := atI_rel rr e
    exact ix_list value slice pins s σ H x y v u Q I rx ry ⟨p, ws, i, w, ex, ey, hq, hw, q _ _ _ Ext.refl rh rw'⟩ hs
  unfold opIdx at e
  split at e
  · cases r2
    obtain ⟨p, ws, ex, hq, z, rr⟩ := r1.tup_inv
    obtain ⟨w, hw, rw'⟩ := atI_rel rr e
    exact ix_tup value slice pins s σ H x _ v u Q I rx ry ⟨p, ws, _, w, ex, rfl, hq, hw, q _ _ _ Ext.refl rh rw'⟩ hs
  · cases r2
    cases r1 with
    | lst n m q1 z r => exact lists _ _ _ _ rfl rfl (.inl (.inl q1)) r e
  · cases r2
    cases r1 with
    | fz n m q1 z r => exact lists _ _ _ _ rfl rfl (.inl (.inr ⟨_, q1⟩)) r e
    | kfz k z r => exact lists _ _ _ _ rfl rfl (.inr k) r e
  · split at e
    · rename_i xs i hxs
      cases r2
      cases r1 with
      | ref q1 =>
        obtain ⟨o, w, h1, h2, h3⟩ := rh.at q1
        rw [hxs] at h1; cases h1
        cases h3 with
        | lst z r => exact lists _ _ _ _ rfl rfl (.inl (.inl h2)) r e
    · rename_i kvs yy hxs
      cases r1 with
      | ref q1 =>
        obtain ⟨o, w, h1, h2, h3⟩ := rh.at q1
        rw [hxs] at h1; cases h1
        cases h3 with
        | @dct _ kws z r =>
          split at e
          · rename_i k hk
            obtain rfl := key_inv hk r2
            rcases valD_rel r k with ⟨a, b⟩ | ⟨d', v', a, b, c⟩
            · rw [a] at e; cases e
            · rw [a] at e; cases e
              cases (show v = Value.ref _ from rx)
              have g := DGet.k (k := k) h2
              rw [b] at g
              exact tail_any (dict_typeIs I g) PySem.F.slot_dict_getitem.lookup (d_getItem hu I g ry fun w' s3 I3 rw' => ⟨v', H, I3, rw', q _ _ _ Ext.refl rh c⟩) hs
          · cases e
    · cases e
  · cases e
def rSl (K : PySem.W.Frag) : V → Option Int → Option Int → Hp → VK → Prop := fun x lo hi H Q => ∃ J h dx d, RH K J h H ∧ RD K J H dx x ∧ opSlc h dx lo hi = some d ∧ ∀ J' H' v, Ext J H J' H' → RH K J' h H' → RD K J' H' d v → Q v H'
theorem cutD_rel {K : PySem.W.Frag} {J : Jn} {H : Hp} {ds : List D} {vs : List V} {lo hi : Option Int} (r : RDs K J H ds vs) : RDs K J H (cutD ds lo hi) (cutV vs lo hi) := by
  unfold cutD cutV
  rw [r.length]
  exact (r.drop _).take _
theorem cutD_whole {ds : List D} {lo hi : Option Int} (e : HT.sIx ds.length 0 lo = 0 ∧ HT.sIx ds.length ds.length hi = ds.length) : cutD ds lo hi = ds := by
  unfold cutD
  rw [e.1, e.2]; simp
theorem sl_all : SlR X (rSl X.K) := by
  intro pins s σ H x v vl vu lo hi sl Q I rx hs pl pu ⟨J, h, dx, d, rh, r1, e, q⟩
  unfold opSlc at e
  split at e
  · cases e
    obtain ⟨p, ws, ex, hq, z, rr⟩ := r1.tup_inv
    refine sl_tupA pins s σ H x v vl vu lo hi sl Q I rx hs pl pu ⟨p, ws, ex, hq, fun hw => ?_, fun _ p' np => ?_⟩
    · refine q _ _ _ Ext.refl rh ?_
      rw [cutD_whole (by rw [rr.length]; exact hw), ← ex]; exact r1
    · exact q _ _ _ (Ext.laid np) (rh.laid np) (RD.newTup rh np (cutD_rel rr) (Nat.le_trans (cutV_length _ _ _) z))
  · split at e
    · rename_i xs e2
      cases e
      obtain ⟨p, ws, ex, hq, z, rr⟩ := res_inv rh e2 r1
      exact sl_list pins s σ H x v vl vu lo hi sl Q I rx hs pl pu ⟨p, ws, ex, hq, fun p' np =>
        q _ _ _ (Ext.laid np) (rh.laid np) (RD.newLst rh np (cutD_rel rr) (Nat.le_trans (cutV_length _ _ _) z))⟩
    · cases e

/-! ### built-in functions -/
def rBf (K : PySem.W.Frag) (f : Hh → List D → Option D) : List V → Hp → VK → Prop := fun xs H Q => ∃ J h ds d, RH K J h H ∧ RDs K J H ds xs ∧ f h ds = some d ∧ ∀ J' H' v, Ext J H J' H' → RH K J' h H' → RD K J' H' d v → Q v H'
theorem one_inv {K : PySem.W.Frag} {J : Jn} {H : Hp} {d : D} {vs : List V} (r : RDs K J H [d] vs) : ∃ v, vs = [v] ∧ RD K J H d v := by
  cases r with | cons a b => cases b; exact ⟨_, rfl, a⟩
theorem two_inv {K : PySem.W.Frag} {J : Jn} {H : Hp} {d e : D} {vs : List V} (r : RDs K J H [d, e] vs) : ∃ v w, vs = [v, w] ∧ RD K J H d v ∧ RD K J H e w := by
  cases r with | cons a b => cases b with | cons b c => cases c; exact ⟨_, _, rfl, a, b⟩
theorem bf_len : CallR X (.builtin "len") (rBf X.K (opBf .len)) := by
  intro pins s σ H xs us Q I r ⟨J, h, ds, d, rh, rs, e0, q⟩
  have seqs : ∀ (p : Addr) (ws : List V) (n : Nat), xs = [.ref p] → (SqL X.K H p ws ∨ SqT X.K H p ws) → ws.length = n → d = .int n → wpAny (model X.prog X.w) X.A (call (.builtin "len") us) (EP X pins σ Q) X.xe s := by
    intro p ws n ex hq en ed
    exact call_len_seq pins s σ H xs us Q I r ⟨p, ws, ex, hq, by rw [en]; exact q _ _ _ Ext.refl rh (by rw [ed]; exact .int _)⟩
  have e : bfLen h ds = some d := e0
  clear e0
  unfold bfLen at e
  split at e
  · cases e
    obtain ⟨w, rfl, r1⟩ := one_inv rs
    obtain ⟨p, ws, ex, hq, z, rr⟩ := r1.tup_inv
    exact seqs p ws _ (by rw [ex]) (.inr hq) rr.length.symm rfl
  · cases e
    obtain ⟨w, rfl, r1⟩ := one_inv rs
    cases r1 with
    | lst n m q1 z rr => exact seqs _ _ _ rfl (.inl (.inl (.inl q1))) rr.length.symm rfl
  · cases e
    obtain ⟨w, rfl, r1⟩ := one_inv rs
    cases r1 with
    | fz n m q1 z rr => exact seqs _ _ _ rfl (.inl (.inl (.inr ⟨_, q1⟩))) rr.length.symm rfl
    | kfz k z rr => exact seqs _ _ _ rfl (.inl (.inr k)) rr.length.symm rfl
  · cases e
    obtain ⟨w, rfl, r1⟩ := one_inv rs
    cases r1 with
    | ft n m q1 c d z rr => exact seqs _ _ _ rfl (.inr (.inl (.inr ⟨_, q1⟩))) rr.length.symm rfl
  · obtain ⟨w, rfl, r1⟩ := one_inv rs
    split at e
    · rename_i hz; cases e; cases r1
      exact call_len_str pins s σ H _ us Q I r ⟨_, rfl, hz, q _ _ _ Ext.refl rh (.int _)⟩
    · cases e
  · obtain ⟨w, rfl, r1⟩ := one_inv rs
    cases r1 with
    | ref q1 =>
      obtain ⟨o, w, h1, h2, h3⟩ := rh.at q1
      rw [h1] at e
      cases h3 with
      | lst z rr => cases e; exact seqs _ _ _ rfl (.inl (.inl (.inl h2))) rr.length.symm rfl
      | dct z rr =>
        cases e
        refine call_lenD pins s σ H _ us Q I r ⟨_, _, rfl, h2, ?_⟩
        rw [← Paired.length rr]
        exact q _ _ _ Ext.refl rh (.int _)
  · cases e
theorem bf_int : CallR X (.type "int") (rBf X.K (opBf .int)) := by
  intro pins s σ H xs us Q I r ⟨J, h, ds, d, rh, rs, e0, q⟩
  have e : bfInt ds = some d := e0
  clear e0
  unfold bfInt at e
  split at e
  · cases e
    obtain ⟨w, rfl, r1⟩ := one_inv rs; cases r1
    exact call_int1 pins s σ H _ us Q I r (.inl ⟨_, rfl, q _ _ _ Ext.refl rh (.int _)⟩)
  · cases e
    obtain ⟨w, rfl, r1⟩ := one_inv rs; cases r1
    exact call_int1 pins s σ H _ us Q I r (.inr ⟨_, rfl, q _ _ _ Ext.refl rh (.int _)⟩)
  · cases e
theorem bf_abs : CallR X (.builtin "abs") (rBf X.K (opBf .abs)) := by
  intro pins s σ H xs us Q I r ⟨J, h, ds, d, rh, rs, e0, q⟩
  have e : bfAbs ds = some d := e0
  clear e0
  unfold bfAbs at e
  split at e
  · cases e
    obtain ⟨w, rfl, r1⟩ := one_inv rs; cases r1
    exact call_abs pins s σ H _ us Q I r ⟨_, rfl, q _ _ _ Ext.refl rh (.int _)⟩
  · cases e
theorem seq_cases {K : PySem.W.Frag} {J : Jn} {H : Hp} {h : Hh} {d : D} {ds : List D} {v : V} (rh : RH K J h H) (hf : ∀ ys, d ≠ .ftup ys) (e : d.seq h = some ds) (r : RD K J H d v) :
    d = .tup ds ∨ ∃ a vs, v = .ref a ∧ SqL K H a vs ∧ vs.length ≤ sizeLine ∧ RDs K J H ds vs := by
  cases d with
  | ftup xs => exact (hf xs rfl).elim
  | tup xs => cases e; exact .inl rfl
  | lst xs => exact .inr (res_inv rh (by cases e; rfl) r)
  | fz xs => exact .inr (res_inv rh (by cases e; rfl) r)
  | ref i => exact .inr (res_inv rh (by
      simp only [D.seq] at e
      split at e
      · rename_i q; cases e; simp only [D.res, q]
      · cases e) r)
  | _ => cases e
theorem bf_tuple : CallR X (.type "tuple") (rBf X.K (opBf .tuple)) := by
  intro pins s σ H xs us Q I r ⟨J, h, ds, d, rh, rs, e0, q⟩
  have e : bfTuple h ds = some d := e0
  clear e0
  unfold bfTuple at e
  split at e
  · cases e
  · rename_i x0 hx0
    obtain ⟨w, rfl, r1⟩ := one_inv rs
    simp only [Option.map_eq_some_iff] at e
    obtain ⟨ys, e1, rfl⟩ := e
    rcases seq_cases rh (fun ys z => hx0 ys (by rw [z])) e1 r1 with rfl | ⟨p, ws, rfl, hq, z, rr⟩
    · obtain ⟨p, ws, rfl, hq, z, rr⟩ := r1.tup_inv
      exact call_tuple_of pins s σ H _ us Q I r ⟨p, ws, rfl, .inr ⟨hq, q _ _ _ Ext.refl rh r1⟩⟩
    · exact call_tuple_of pins s σ H _ us Q I r ⟨p, ws, rfl, .inl ⟨hq, fun l nl => q _ _ _ (Ext.laid nl) (rh.laid nl) (RD.newTup rh nl rr z)⟩⟩
  · cases e
theorem bf_max (hc : X.calm = true) : CallR X (.builtin "max") (rBf X.K (opBf .max2)) := by
  intro pins s σ H xs us Q I r ⟨J, h, ds, d, rh, rs, e0, q⟩
  have e : bfMax ds = some d := e0
  clear e0
  unfold bfMax at e
  split at e
  · cases e
    obtain ⟨w, w2, rfl, r1, r2⟩ := two_inv rs; cases r1; cases r2
    exact call_max2 hc pins s σ H _ us Q I r ⟨_, _, rfl, q _ _ _ Ext.refl rh (.int _)⟩
  · cases e
theorem bf_min (hc : X.calm = true) : CallR X (.builtin "min") (rBf X.K (opBf .min2)) := by
  intro pins s σ H xs us Q I r ⟨J, h, ds, d, rh, rs, e0, q⟩
  have e : bfMin ds = some d := e0
  clear e0
  unfold bfMin at e
  split at e
  · cases e
    obtain ⟨w, w2, rfl, r1, r2⟩ := two_inv rs; cases r1; cases r2
    exact call_min2 hc pins s σ H _ us Q I r ⟨_, _, rfl, q _ _ _ Ext.refl rh (.int _)⟩
  · cases e
theorem ints_rel {K : PySem.W.Frag} {J : Jn} {H : Hp} : ∀ {ds : List D} {vs : List V} {ns : List Int}, RDs K J H ds vs → D.ints ds = some ns → vs = ns.map V.int
  | _, _, _, .nil, e => by cases e; rfl
  | _, _, _, .cons r t, e => by
    cases r <;> simp only [D.ints] at e <;> try (cases e; done)
    simp only [Option.map_eq_some_iff] at e
    obtain ⟨ms, e, rfl⟩ := e
    rw [ints_rel t e]; rfl
theorem bls_rel {K : PySem.W.Frag} {J : Jn} {H : Hp} : ∀ {ds : List D} {vs : List V} {ns : List Bool}, RDs K J H ds vs → D.bls ds = some ns → vs = ns.map V.bl
  | _, _, _, .nil, e => by cases e; rfl
  | _, _, _, .cons r t, e => by
    cases r <;> simp only [D.bls] at e <;> try (cases e; done)
    simp only [Option.map_eq_some_iff] at e
    obtain ⟨ms, e, rfl⟩ := e
    rw [bls_rel t e]; rfl
theorem lstOf_inv {d : D} {ds : List D} (e : d.lstOf = some ds) : d = .lst ds := by
  cases d <;> cases e; rfl
theorem bf_sum (hc : X.calm = true) : CallR X (.builtin "sum") (rBf X.K (opBf .sum)) := by
  intro pins s σ H xs us Q I r ⟨J, h, ds, d, rh, rs, e0, q⟩
  have e : bfSum h ds = some d := e0
  clear e0
  unfold bfSum at e
  split at e
  · obtain ⟨w, rfl, r1⟩ := one_inv rs
    simp only [Option.map_eq_some_iff, Option.bind_eq_some_iff] at e
    obtain ⟨ns, ⟨ys, e1, e2⟩, rfl⟩ := e
    obtain ⟨p, ws, rfl, hq, z, rr⟩ := res_inv rh (lstOf_inv e1) r1
    obtain rfl := ints_rel rr e2
    exact cr_sum hc pins s σ H _ us Q I r ⟨p, ns, rfl, hq, q _ _ _ Ext.refl rh (.int _)⟩
  · cases e
theorem bf_all (hc : X.calm = true) : CallR X (.builtin "all") (rBf X.K (opBf .all)) := by
  intro pins s σ H xs us Q I r ⟨J, h, ds, d, rh, rs, e0, q⟩
  have e : bfAll h ds = some d := e0
  clear e0
  unfold bfAll at e
  split at e
  · obtain ⟨w, rfl, r1⟩ := one_inv rs
    simp only [Option.map_eq_some_iff, Option.bind_eq_some_iff] at e
    obtain ⟨ns, ⟨ys, e1, e2⟩, rfl⟩ := e
    obtain ⟨p, ws, rfl, hq, z, rr⟩ := res_inv rh (lstOf_inv e1) r1
    obtain rfl := bls_rel rr e2
    exact cr_all hc pins s σ H _ us Q I r ⟨p, ns, rfl, hq, q _ _ _ Ext.refl rh (.bl _)⟩
  · cases e
theorem bf_any (hc : X.calm = true) : CallR X (.builtin "any") (rBf X.K (opBf .any)) := by
  intro pins s σ H xs us Q I r ⟨J, h, ds, d, rh, rs, e0, q⟩
  have e : bfAny h ds = some d := e0
  clear e0
  unfold bfAny at e
  split at e
  · obtain ⟨w, rfl, r1⟩ := one_inv rs
    simp only [Option.map_eq_some_iff, Option.bind_eq_some_iff] at e
    obtain ⟨ns, ⟨ys, e1, e2⟩, rfl⟩ := e
    obtain ⟨p, ws, rfl, hq, z, rr⟩ := res_inv rh (lstOf_inv e1) r1
    obtain rfl := bls_rel rr e2
    exact cr_any hc pins s σ H _ us Q I r ⟨p, ns, rfl, hq, q _ _ _ Ext.refl rh (.bl _)⟩
  · cases e
/-- repr of a list, of a tuple -/
theorem bf_repr (hu : X.A.units + 200 < cLine) (hg : X.A.guards = some []) : CallR X (.builtin "repr") (rBf X.K (opBf .repr)) := by
  intro pins s σ H xs us Q I r ⟨J, h, ds, d, rh, rs, e0, q⟩
  have e : bfRepr h ds = some d := e0
  clear e0
  unfold bfRepr at e
  split at e
  · rename_i x
    obtain ⟨w, rfl, r1⟩ := one_inv rs
    unfold reprD at e
    split at e
    · rename_i hc
      cases e
      (simp only [Bool.and_eq_true, decide_eq_true_eq] at hc)
      obtain ⟨⟨⟨h1, h2⟩, h3⟩, h4⟩ := hc
      have hl : (x.res h).lay = true := by simp only [D.shp, Bool.and_eq_true] at h2; exact h2.1
      have hd : (x.res h).dep ≤ 64 := by simp only [D.shp, Bool.and_eq_true, decide_eq_true_eq] at h2; exact h2.2
      have dp := res_dp rh hl r1
      obtain ⟨u, rfl⟩ : ∃ a, w = .ref a := by
        generalize x.res h = y at dp h1
        cases y with
        | tup ys => simp only [D.py] at dp; cases dp; exact ⟨_, rfl⟩
        | lst ys => simp only [D.py] at dp; cases dp; exact ⟨_, rfl⟩
        | _ => cases h1
      obtain rfl := Vals.ref1 r
      obtain ⟨as, rd⟩ := Dp.reads I _ _ (.ref u) dp rfl
      exact repr_of_reads' rd h3 (PyData.noDict_hsm (PyData.hasDict_of_canLay _ (lay_py _ hl))) hg (by rw [dep_py _ hl]; omega) (fun _ _ z => z) (fun h' t tk hk => ⟨.str _, H, I.kept hk, ⟨_, rfl⟩, q _ _ _ Ext.refl rh (.str _)⟩) h4
    · cases e
  · cases e
/-- list(x): a new list -/
theorem bf_list : CallR X (.type "list") (fun xs H Q => ∃ J h ds d, RH X.K J h H ∧ RDs X.K J H ds xs ∧ bfList h ds = some d ∧ ∀ p ys vs, d = .lst ys → H p = none → vs.length ≤ sizeLine → RDs X.K J H ys vs → Q (.ref p) (upd H p (.lst vs))) := by
  intro pins s σ H xs us Q I r ⟨J, h, ds, d, rh, rs, e, q⟩
  unfold bfList at e
  split at e
  · obtain ⟨w, rfl, r1⟩ := one_inv rs
    simp only [Option.map_eq_some_iff] at e
    obtain ⟨ys, e, rfl⟩ := e
    obtain ⟨p, ws, rfl, hq, z, rr⟩ := seq_inv rh e r1
    exact call_list_of pins s σ H _ us Q I r ⟨p, ws, rfl, hq, fun l nl => q l _ _ rfl nl z rr⟩
  · cases e

/-! ### isinstance -/
def Ty.nm : Ty → String
  | .int => "int" | .str => "str" | .tup => "tuple" | .lst => "list" | .bl => "bool" | .dct => "dict" | .non => "NoneType"
def D.tyn (h : Hh) : D → String
  | .ftup _ => "tuple" | .non => "NoneType" | .bl _ => "bool" | .int _ => "int" | .str _ => "str" | .tup _ => "tuple" | .lst _ => "list" | .fz _ => "list"
  | .ref i => match h[i]? with
    | some (.dct _) => "dict"
    | _ => "list"
theorem tyx_of {K : PySem.W.Frag} {J : Jn} {H : Hp} {h : Hh} {d : D} {v : V} (rh : RH K J h H) (hf : d.isF = false) (r : RD K J H d v) : TyX K H v (.type (d.tyn h)) := by
  cases r with
  | ft n m q c d z r => cases hf
  | non => exact .base .non
  | bl b => exact .base (.bl b)
  | int i => exact .base (.int i)
  | str x => exact .base (.str x)
  | tup n m q z r => exact .base (.tup q)
  | ktup k z r => obtain ⟨o, its, n, k1, k2, _⟩ := k; exact .kTuple k1 k2
  | lst n m q z r => exact .base (.lst q)
  | fz n m q z r => exact .base (.frz q)
  | kfz k z r => obtain ⟨o, its, n, k1, k2, _⟩ := k; exact .kList k1 k2
  | ref q =>
    obtain ⟨o, u, h1, h2, h3⟩ := rh.at q
    simp only [D.tyn, h1]
    cases h3 with
    | lst z r => exact .base (.lst h2)
    | dct z r => exact .base (.dK h2)
theorem isi_kit : ∀ (t : Ty) (n : String), n ∈ ["NoneType", "bool", "int", "str", "tuple", "list", "dict"] → kitB n t.nm = some (decide (n = t.nm) || (decide (n = "bool") && decide (t.nm = "int"))) := by
  intro t n hn
  simp only [List.mem_cons, List.not_mem_nil, or_false] at hn
  cases t <;> rcases hn with rfl | rfl | rfl | rfl | rfl | rfl | rfl <;> decide +kernel
theorem isi_ops {t : Ty} : CallR X (.builtin "isinstance") (fun xs H Q => ∃ J h d v, RH X.K J h H ∧ d.isF = false ∧ RD X.K J H d v ∧ xs = [v, .ty t.nm] ∧ Q (.bl (opIsi t h d)) H) := by
  intro pins s σ H xs us Q I r ⟨J, h, d, v, rh, hf, r1, ex, q⟩
  have hn : d.tyn h ∈ ["NoneType", "bool", "int", "str", "tuple", "list", "dict"] := by
    cases d <;> simp only [D.tyn] <;> try decide
    split <;> decide
  have e := isi_kit t _ hn
  have e2 : (decide (d.tyn h = t.nm) || (decide (d.tyn h = "bool") && decide (t.nm = "int"))) = opIsi t h d := by
    cases r1 with
    | ref q1 =>
      obtain ⟨o, w, h1, h2, h3⟩ := rh.at q1
      cases o <;> cases t <;> simp [opIsi, D.tyn, h1, Ty.nm]
    | ft => cases hf
    | _ => cases t <;> simp [opIsi, D.tyn, Ty.nm]
  rw [e2] at e
  exact call_isi pins s σ H xs us Q I r ⟨v, .ty t.nm, .type (d.tyn h), .type t.nm, _, ex, .ty _, tyx_of rh hf r1, kit_ty e, q⟩

/-! ### methods -/
def rMt (K : PySem.W.Frag) (m : Mt) : V → List V → Hp → VK → Prop := fun x xs H Q => ∃ J h dx ds d h', RH K J h H ∧ RD K J H dx x ∧ RDs K J H ds xs ∧ mthOp m dx ds h = .ok d h' ∧ ∀ J' H' v, Ext J H J' H' → RH K J' h' H' → RD K J' H' d v → Q v H'
theorem RH.writeL {K : PySem.W.Frag} {J : Jn} {h : Hh} {H : Hp} {i : Nat} {a : Addr} {ds : List D} {vs : List V} (rh : RH K J h H) (q : J.l[i]? = some a) (z : vs.length ≤ sizeLine) (r : RDs K J H ds vs) : RH K J (h.set i (.lst ds)) (upd H a (.lst vs)) :=
  rh.write q (.lst z (r.ext (Ext.write q)))
theorem mt_lst {K : PySem.W.Frag} {J : Jn} {h : Hh} {H : Hp} {m : Mt} {x : V} {dx d : D} {ds : List D} {h' : Hh} (rh : RH K J h H) (r1 : RD K J H dx x) (e : mthOp m dx ds h = .ok d h') :
    ∃ i a ys ws ys', x = .ref a ∧ J.l[i]? = some a ∧ H a = some (.lst ws) ∧ ws.length ≤ sizeLine ∧ RDs K J H ys ws ∧ mtL m ys ds = some (d, ys') ∧ h' = h.set i (.lst ys') := by
  cases r1 with
  | ref q1 =>
    obtain ⟨o, w, h1, h2, h3⟩ := rh.at q1
    simp only [mthOp, mthRef, h1] at e
    cases h3 with
    | lst z rr =>
      dsimp only at e
      split at e
      · rename_i p hp; cases e; exact ⟨_, _, _, _, _, rfl, q1, h2, z, rr, hp, rfl⟩
      · cases e
    | dct z rr => cases e
  | _ => cases e
theorem mt_appendD : MtR X "list.append" (rMt X.K .append) := by
  intro pins s σ H x xs v us Q I rx rs ⟨J, h, dx, ds, d, h', rh, r1, r2, e, q⟩
  obtain ⟨i, a, ys, ws, ys', rfl, q1, h2, z, rr, e1, rfl⟩ := mt_lst rh r1 e
  have e2 : mtAppend ys ds = some (d, ys') := e1
  unfold mtAppend at e2
  split at e2
  · split at e2
    · rename_i hz; cases e2
      obtain ⟨y, rfl, ry⟩ := one_inv r2
      have hs : ws.length + 1 ≤ sizeLine := by rw [← rr.length]; exact size_of hz
      exact mt_append pins s σ H _ _ v us Q I rx rs ⟨_, ws, y, rfl, rfl, h2, hs, q _ _ _ (Ext.write q1) (rh.writeL q1 (by rw [List.length_append]; exact hs) (rr.append (.cons ry .nil))) .non⟩
    · cases e2
  · cases e2
theorem mt_popD : MtR X "list.pop" (fun x xs H Q => rMt X.K .pop x xs H Q ∨ rMt X.K .popAt x xs H Q) := by
  intro pins s σ H x xs v us Q I rx rs hw
  rcases hw with ⟨J, h, dx, ds, d, h', rh, r1, r2, e, q⟩ | ⟨J, h, dx, ds, d, h', rh, r1, r2, e, q⟩
  · obtain ⟨i, a, ys, ws, ys', rfl, q1, h2, z, rr, e1, rfl⟩ := mt_lst rh r1 e
    have e2 : mtPop ys ds = some (d, ys') := e1
    unfold mtPop at e2
    split at e2
    · simp only [Option.map_eq_some_iff] at e2
      obtain ⟨y, hy, e3⟩ := e2
      cases e3
      rw [rr.length] at hy
      obtain ⟨w, hw, rw'⟩ := rr.get hy
      cases r2
      exact mt_pop pins s σ H _ _ v us Q I rx rs ⟨_, ws, w, rfl, rfl, h2, hw, q _ _ _ (Ext.write q1) (rh.writeL q1 (by rw [List.length_dropLast]; omega) rr.dropLast) (rw'.ext (Ext.write q1))⟩
    · cases e2
  · obtain ⟨i, a, ys, ws, ys', rfl, q1, h2, z, rr, e1, rfl⟩ := mt_lst rh r1 e
    have e2 : mtPopAt ys ds = some (d, ys') := e1
    unfold mtPopAt at e2
    split at e2
    · simp only [Option.map_eq_some_iff, Option.bind_eq_some_iff] at e2
      obtain ⟨j, hk, y, hy, e3⟩ := e2
      cases e3
      rw [rr.length] at hk
      obtain ⟨w, hw, rw'⟩ := rr.get hy
      obtain ⟨s1, s2, s3, s4⟩ := ixN_seq hk
      obtain ⟨y2, rfl, ry⟩ := one_inv r2
      cases ry
      have hs := sizeLine_eq
      refine mt_popAt pins s σ H _ _ v us Q I rx rs ⟨_, ws, _, j, w, rfl, rfl, h2, by omega, by omega, s1, hw, q _ _ _ (Ext.write q1) (rh.writeL q1 ?_ (rr.eraseIdx _)) (rw'.ext (Ext.write q1))⟩
      have := List.length_eraseIdx_le ws j
      omega
    · cases e2
end
end PV
end

section
set_option maxRecDepth 100000
namespace PV
open L2 PySem PySem.Spec PyProof.Rows

/-! ### the text's forms -/
def asName : Expr → Option Str
  | .Name x _ => some x
  | _ => none
def asCon : Expr → Option Const
  | .Constant k _ _ => some k
  | _ => none
def asTup : Expr → Option (List Expr)
  | .Tuple xs _ _ => some xs
  | _ => none
def asLst : Expr → Option (List Expr)
  | .List xs _ => some xs
  | _ => none
def asBin : Expr → Option (Expr × Operator × Expr)
  | .BinOp a o b _ => some (a, o, b)
  | _ => none
def asUn : Expr → Option (UnaryOp × Expr)
  | .UnaryOp o a _ => some (o, a)
  | _ => none
def asCmp1 : Expr → Option (Expr × CmpOp × Expr)
  | .Compare a [o] [b] _ => some (a, o, b)
  | _ => none
def asCmp2 : Expr → Option (Expr × CmpOp × CmpOp × Expr × Expr)
  | .Compare a [o, p] [b, c] _ => some (a, o, p, b, c)
  | _ => none
def asBool : Expr → Option (BoolOp × Expr × List Expr)
  | .BoolOp o (a :: es) _ => some (o, a, es)
  | _ => none
def asIf : Expr → Option (Expr × Expr × Expr)
  | .IfExp c a b _ => some (c, a, b)
  | _ => none
def asSub : Expr → Option (Expr × Expr)
  | .Subscript a i _ => some (a, i)
  | _ => none
def asSlc : Expr → Option (Option Expr × Option Expr)
  | .Slice lo hi none _ => some (lo, hi)
  | _ => none
def asCall : Expr → Option (Str × List Expr)
  | .Call (.Name x _) es [] _ => some (x, es)
  | _ => none
def asMth : Expr → Option (Expr × Str × List Expr)
  | .Call (.Attribute o m apos) es [] cpos => if apos.endLine == cpos.line then some (o, m, es) else none
  | _ => none
def asLc : Expr → Option (Expr × Expr × Expr × List Expr × Scope)
  | .ListComp elt [⟨tg, iter, ifs, a⟩] scope _ => if a = 0 then some (elt, tg, iter, ifs, scope) else none
  | _ => none
def asDic0 : Expr → Bool
  | .Dict [] [] _ => true
  | _ => false
def asIsi : Expr → Option (Str × Expr × Str)
  | .Call (.Name f _) [a, .Name ty _] [] _ => some (f, a, ty)
  | _ => none
def asTenum : Expr → Option (Str × Str × Expr)
  | .Call (.Name f _) [.Call (.Name g _) [a] [] _] [] _ => some (f, g, a)
  | _ => none
def asCallK : Expr → Option (Str × List Expr × List Keyword)
  | .Call (.Name x _) es kws _ => some (x, es, kws)
  | _ => none
/-- not a star, a set display or a slice -/
def plainX : Expr → Bool
  | .Starred .. => false
  | .Set .. => false
  | .Slice .. => false
  | _ => true
section
variable {e : Expr}
theorem asName_eq {x : Str} (h : asName e = some x) : ∃ p, e = .Name x p := by cases e <;> simp [asName] at h; exact ⟨_, by rw [h]⟩
theorem asCon_eq {x : Const} (h : asCon e = some x) : ∃ k p, e = .Constant x k p := by cases e <;> simp [asCon] at h; exact ⟨_, _, by rw [h]⟩
theorem asTup_eq {x : List Expr} (h : asTup e = some x) : ∃ k p, e = .Tuple x k p := by cases e <;> simp [asTup] at h; exact ⟨_, _, by rw [h]⟩
theorem asLst_eq {x : List Expr} (h : asLst e = some x) : ∃ p, e = .List x p := by cases e <;> simp [asLst] at h; exact ⟨_, by rw [h]⟩
theorem asBin_eq {a b : Expr} {o : Operator} (h : asBin e = some (a, o, b)) : ∃ p, e = .BinOp a o b p := by
  cases e <;> simp [asBin] at h; obtain ⟨rfl, rfl, rfl⟩ := h; exact ⟨_, rfl⟩
theorem asUn_eq {a : Expr} {o : UnaryOp} (h : asUn e = some (o, a)) : ∃ p, e = .UnaryOp o a p := by
  cases e <;> simp [asUn] at h; obtain ⟨rfl, rfl⟩ := h; exact ⟨_, rfl⟩
theorem asCmp1_eq {a b : Expr} {o : CmpOp} (h : asCmp1 e = some (a, o, b)) : ∃ p, e = .Compare a [o] [b] p := by
  unfold asCmp1 at h
  split at h
  · cases h; exact ⟨_, rfl⟩
  · cases h
theorem asCmp2_eq {a b c : Expr} {o p : CmpOp} (h : asCmp2 e = some (a, o, p, b, c)) : ∃ q, e = .Compare a [o, p] [b, c] q := by
  unfold asCmp2 at h
  split at h
  · cases h; exact ⟨_, rfl⟩
  · cases h
theorem asBool_eq {a : Expr} {o : BoolOp} {es : List Expr} (h : asBool e = some (o, a, es)) : ∃ p, e = .BoolOp o (a :: es) p := by
  unfold asBool at h
  split at h
  · cases h; exact ⟨_, rfl⟩
  · cases h
theorem asIf_eq {a b c : Expr} (h : asIf e = some (c, a, b)) : ∃ p, e = .IfExp c a b p := by
  cases e <;> simp [asIf] at h; obtain ⟨rfl, rfl, rfl⟩ := h; exact ⟨_, rfl⟩
theorem asSub_eq {a i : Expr} (h : asSub e = some (a, i)) : ∃ p, e = .Subscript a i p := by
  cases e <;> simp [asSub] at h; obtain ⟨rfl, rfl⟩ := h; exact ⟨_, rfl⟩
theorem asSlc_eq {lo hi : Option Expr} (h : asSlc e = some (lo, hi)) : ∃ p, e = .Slice lo hi none p := by
  unfold asSlc at h
  split at h
  · cases h; exact ⟨_, rfl⟩
  · cases h
theorem asCall_eq {x : Str} {es : List Expr} (h : asCall e = some (x, es)) : ∃ p q, e = .Call (.Name x p) es [] q := by
  unfold asCall at h
  split at h
  · cases h; exact ⟨_, _, rfl⟩
  · cases h
theorem asMth_eq {o : Expr} {m : Str} {es : List Expr} (h : asMth e = some (o, m, es)) : ∃ p q, e = .Call (.Attribute o m p) es [] q ∧ (p.endLine == q.line) = true := by
  unfold asMth at h
  split at h
  · split at h
    · rename_i hl; cases h; exact ⟨_, _, rfl, hl⟩
    · cases h
  · cases h
theorem asLc_eq {elt tg iter : Expr} {ifs : List Expr} {scope : Scope} (h : asLc e = some (elt, tg, iter, ifs, scope)) : ∃ p, e = .ListComp elt [⟨tg, iter, ifs, 0⟩] scope p := by
  unfold asLc at h
  split at h
  · split at h
    · rename_i ha; cases h; subst ha; exact ⟨_, rfl⟩
    · cases h
  · cases h
theorem asDic0_eq (h : asDic0 e = true) : ∃ p, e = .Dict [] [] p := by
  unfold asDic0 at h
  split at h
  · exact ⟨_, rfl⟩
  · cases h
theorem asIsi_eq {f ty : Str} {a : Expr} (h : asIsi e = some (f, a, ty)) : ∃ p q r, e = .Call (.Name f p) [a, .Name ty q] [] r := by
  unfold asIsi at h
  split at h
  · cases h; exact ⟨_, _, _, rfl⟩
  · cases h
theorem asTenum_eq {f g : Str} {a : Expr} (h : asTenum e = some (f, g, a)) : ∃ p q r s, e = .Call (.Name f p) [.Call (.Name g q) [a] [] r] [] s := by
  unfold asTenum at h
  split at h
  · cases h; exact ⟨_, _, _, _, rfl⟩
  · cases h
theorem asCallK_eq {x : Str} {es : List Expr} {kws : List Keyword} (h : asCallK e = some (x, es, kws)) : ∃ p q, e = .Call (.Name x p) es kws q := by
  unfold asCallK at h
  split at h
  · cases h; exact ⟨_, _, rfl⟩
  · cases h
theorem plain_star (h : plainX e = true) (es : List Expr) (env : PySem.Env) : starEach (e :: es) env = (false, eval e env) :: starEach es env := by
  cases e <;> first | rfl | simp [plainX] at h
theorem plain_mark (h : plainX e = true) (o : CmpOp) : behindInMarks o e = false := by cases e <;> first | rfl | simp [plainX] at h
theorem plain_fold (h : plainX e = true) (env : PySem.Env) (x : Value) : foldedSetIterable e env x = pure x := by cases e <;> first | rfl | simp [plainX] at h
theorem plain_ix (h : plainX e = true) : PlainIx e := by intro o i; cases e <;> first | rfl | simp [plainX] at h
end
end PV
end

section
set_option maxRecDepth 100000
namespace PV
open L2 PySem PySem.Spec PyProof.Rows

/-! ### what is known of the place where a piece stands -/
structure Cs where
  N : List Str
  sc : Scope
  fn : Str → Bool
  bs : List Str
  T : List Fn
  gn : List Str
def spF (K : PySem.W.Frag) (F : Fns) (f : Nat) (n : Nat) : Sp := fun vs H Q _ => vs.length = n ∧ ∃ J h ds, RDs K J H ds vs ∧ RH K J h H ∧ Post K J H (rD K) (F f ds h) Q
/-- how a call with keywords binds -/
structure KwOk (K : PySem.W.Frag) (fd : FuncData) (ps : List Str) (n : Nat) (ks : List Str) (pm : List Nat) : Prop where
  to : ∀ (s : Shared) (us ws : List Value), K.In s.heap → us.length = n → ws.length = ks.length → BindsTo s fd ⟨us, ks.zip ws⟩ (ps.zip (pmD .none pm us ws))
  len : pm.length = ps.length
/-- what a def promises where no repr is under way -/
structure FnG (P : Program) (w : World) (K : PySem.W.Frag) (mg : Str → Option Value) (base : Heap) (k : Nat) (f : Addr) (fd : FuncData) (ps : List Str) (sp : Sp) : Prop where
  len : ∀ vs H Q E, (sp vs H Q E → vs.length = ps.length)
  go : ∀ {A : Around} {out : List PySem.Env} {s : Shared} {H : Hp} {args : Args} {us : List Value} {vs : List V} {Q : VK}, Room k A → A.guards = some [] → Env0 P w K mg base A out s H → BindsTo s fd args (ps.zip us) → Vals vs us → sp vs H Q E0 →
    codeAny (model P w) A (.call (.ref f) args) (CR CX0 out P w H s Q E0) s
structure CallOk (T : List Fn) (F : Fns) (X : Cx) : Prop where
  ok : ∃ k, Room k X.A ∧ X.A.guards = some [] ∧ ∀ (f : Nat) (fn : Fn), T[f]? = some fn → ∃ a fd, X.mg fn.name = some (.ref a) ∧ PySem.W.keepIn X.K (.ref a) = true ∧ FnG X.prog X.w X.K X.mg X.base k a fd fn.P (spF X.K F f fn.P.length) ∧ Binds X.K fd fn.P [] ∧ ∀ q ∈ fn.kw, KwOk X.K fd fn.P q.1 q.2.1 q.2.2
structure Ok (c : Cs) (F : Fns) (G : List D) (X : Cx) : Prop where
  hN : X.N = c.N
  nd : X.N.Nodup
  sc : X.env.scope = c.sc
  fn : X.fn = c.fn
  calm : X.calm = true
  call : CallOk c.T F X
  blt : ∀ x ∈ c.bs, X.mg x = none
  glo : ∀ (i : Nat) (x : Str) (d : D), c.gn[i]? = some x → G[i]? = some d → ∃ v u, X.mg x = some u ∧ L2.RelV v u ∧ ∀ J H, RD X.K J H d v
def Cs.vis (c : Cs) (i : Nat) (x : Str) : Bool :=
  decide (c.N[i]? = some x) && (match c.sc.names.lookup x with | some .local => true | some .cell => true | some .free => true | _ => false) && !(x == ("__debug__" : Str)) && !(x == ("__classdict__" : Str))
def Cs.loc (c : Cs) (i : Nat) (x : Str) : Bool :=
  decide (c.N[i]? = some x) && (match c.sc.names.lookup x with | some .local => true | some .cell => c.fn x | _ => false)
def Cs.glb (c : Cs) (x : Str) : Bool :=
  (match c.sc.names.lookup x with | some .globalImplicit => true | _ => false) && !(x == ("__debug__" : Str))
section
variable {c : Cs} {F : Fns} {G : List D} {X : Cx}
theorem Ok.units (o : Ok c F G X) : X.A.units + 200 < cLine := by
  obtain ⟨k, hr, _, _⟩ := o.call.ok
  have := hr.un; omega
theorem Ok.guards (o : Ok c F G X) : X.A.guards = some [] := by
  obtain ⟨k, _, h, _⟩ := o.call.ok
  exact h
theorem vis_ok (o : Ok c F G X) {i : Nat} {x : Str} (h : c.vis i x = true) : X.N[i]? = some x ∧ Vis X.env.scope x ∧ (x == ("__debug__" : Str)) = false ∧ (x == ("__classdict__" : Str)) = false := by
  simp only [Cs.vis, Bool.and_eq_true, decide_eq_true_eq, Bool.not_eq_true'] at h
  (obtain ⟨⟨⟨h1, h2⟩, h3⟩, h4⟩ := h)
  refine ⟨by rw [o.hN]; exact h1, ?_, h3, h4⟩
  unfold Vis
  rw [o.sc]
  split at h2
  · exact .inl (by assumption)
  · exact .inr (.inl (by assumption))
  · exact .inr (.inr (by assumption))
  · cases h2
theorem loc_ok (o : Ok c F G X) {i : Nat} {x : Str} (h : c.loc i x = true) : X.N[i]? = some x ∧ L2.Loc X.env.scope x ∧ (X.fn x = true ∨ X.env.scope.names.lookup x = some .local) := by
  simp only [Cs.loc, Bool.and_eq_true, decide_eq_true_eq] at h
  obtain ⟨h1, h2⟩ := h
  refine ⟨by rw [o.hN]; exact h1, ?_, ?_⟩
  · unfold L2.Loc
    rw [o.sc]
    split at h2
    · exact .inl (by assumption)
    · exact .inr (by assumption)
    · cases h2
  · rw [o.sc, o.fn]
    split at h2
    · exact .inr (by assumption)
    · exact .inl h2
    · cases h2
theorem glb_ok (o : Ok c F G X) {x : Str} (h : c.glb x = true) : Gl X x ∧ (x == ("__debug__" : Str)) = false := by
  simp only [Cs.glb, Bool.and_eq_true, Bool.not_eq_true'] at h
  refine ⟨?_, h.2⟩
  have h1 := h.1
  unfold Gl PySem.Env.kindOf
  rw [o.sc]
  split at h1
  · assumption
  · cases h1
end

/-! ### what a piece's proof gives -/
structure SE (X : Cx) (e : Expr) (p : P) : Prop where
  v : PE X e (tG X.K (rD X.K) p.v)
  t : PT X e (tG X.K rB p.t)
structure SEs (X : Cx) (es : List Expr) (p : PL) : Prop where
  l : PA X es (tG X.K (rDs X.K) p.l)
  nil : p.nil = es.isEmpty
  kw : ∀ kws : List Keyword, kws.map (·.value) = es → PK X kws (tG X.K (rDs X.K) p.l)
  an : ∀ pos, PE X (.BoolOp .And es pos) (tG X.K (rD X.K) p.an)
  on : ∀ pos, PE X (.BoolOp .Or es pos) (tG X.K (rD X.K) p.on)
  at_ : ∀ pos, PW X (.BoolOp .And es pos) (tG X.K rB p.at_)
  ot : ∀ pos, PW X (.BoolOp .Or es pos) (tG X.K rB p.ot)
section
variable {X : Cx} {e x a b : Expr} {p pa pb pc : P} {pos : Pos}
theorem tru_rel {K : PySem.W.Frag} {J : Jn} {h : Hh} {H : Hp} {d : D} {v : V} {b : Bool} (rh : RH K J h H) (r : RD K J H d v) (e : d.tru h = some b) : TruV K v H b := by
  cases d with
  | non => cases r; cases e; rfl
  | bl c => cases r; cases e; rfl
  | int i => cases r; cases e; rfl
  | str y =>
    cases r
    simp only [D.tru] at e
    split at e
    · rename_i hz; cases e; exact ⟨hz, rfl⟩
    · cases e
  | ftup xs => cases e
  | tup xs =>
    cases e
    obtain ⟨a, vs, rfl, hq, z, rr⟩ := r.tup_inv
    refine .inr (.inl ⟨vs, hq, ?_⟩)
    cases rr <;> rfl
  | lst xs =>
    cases e
    obtain ⟨a, vs, rfl, hq, z, rr⟩ := res_inv rh rfl r
    refine .inl ⟨vs, hq, ?_⟩
    cases rr <;> rfl
  | fz xs =>
    cases e
    obtain ⟨a, vs, rfl, hq, z, rr⟩ := res_inv rh rfl r
    refine .inl ⟨vs, hq, ?_⟩
    cases rr <;> rfl
  | ref i =>
    cases r with
    | ref q =>
      obtain ⟨o, u, h1, h2, h3⟩ := rh.at q
      simp only [D.tru, h1] at e
      cases h3 with
      | lst z rr => cases e; refine .inl ⟨_, .inl (.inl h2), ?_⟩; cases rr <;> rfl
      | dct z rr => cases e; refine .inr (.inr ⟨_, h2, ?_⟩); cases rr <;> rfl
/-- an expression whose test is its value's truth -/
theorem SE.plain {v : Env → Hh → R D} (hv : PE X x (tG X.K (rD X.K) v)) (he : ∀ whole, isTrue x X.env whole = (do let v ← whole; standAt x.pos; holding [v] (truthy v))) : SE X x (.plain v) := by
  refine ⟨hv, (pt_truth hv he).imp fun σ H Q ⟨ρ, h, J, re, rh, q⟩ => ?_⟩
  refine (Post.step (R1 := rD X.K) (f := v) re rh q).mono fun y H1 ⟨J1, h1, d, e1, re1, rh1, rd, q1⟩ => ?_
  obtain ⟨b, hb, q2⟩ := Post.opt rh1 q1
  exact ⟨b, tru_rel rh1 rd hb, q2 b rfl⟩
theorem SE.ofB {v : Env → Hh → R D} {t : Env → Hh → R Bool} (hv : PE X x (tG X.K (rD X.K) v)) (ht : PT X x (tG X.K rB t)) : SE X x ⟨v, t⟩ := ⟨hv, ht⟩

theorem se_var {i : Nat} {y : Str} {c : Cs} {F : Fns} {G : List D} (o : Ok c F G X) (h : c.vis i y = true) : SE X (.Name y pos) (evE F G (.var i)) := by
  obtain ⟨h1, h2, h3, h4⟩ := vis_ok o h
  refine SE.plain ((pe_var h1 h2 h3 h4).imp fun σ H Q ⟨ρ, hh, J, re, rh, q⟩ => ?_) (fun _ => rfl)
  cases e : ρ[i]? with
  | none => simp only [e] at q; exact False.elim q
  | some od =>
    cases od with
    | none => simp only [e] at q; exact False.elim q
    | some d =>
      simp only [e] at q
      obtain ⟨v, hv, rd⟩ := re.get i d e
      exact ⟨v, hv, q J H v Ext.refl rh rd⟩
def conM : D → Const → Bool
  | .non, .none => true
  | .bl a, .bool b => a == b
  | .int i, .int j => decide (i = j)
  | .str a, .str b => decide (a = b)
  | _, _ => false
theorem se_con {d : D} {k : Const} {n : Nat} {F : Fns} {G : List D} (h : conM d k = true) : SE X (.Constant k n pos) (evE F G (.con d)) := by
  refine SE.plain ?_ (fun _ => rfl)
  unfold conM at h
  split at h
  · exact pe_non.imp fun σ H Q ⟨ρ, hh, J, re, rh, q⟩ => q J H _ Ext.refl rh .non
  · have := beq_iff_eq.mp h; subst this
    exact pe_bl.imp fun σ H Q ⟨ρ, hh, J, re, rh, q⟩ => q J H _ Ext.refl rh (.bl _)
  · have := of_decide_eq_true h; subst this
    exact pe_int.imp fun σ H Q ⟨ρ, hh, J, re, rh, q⟩ => q J H _ Ext.refl rh (.int _)
  · have := of_decide_eq_true h; subst this
    exact pe_str.imp fun σ H Q ⟨ρ, hh, J, re, rh, q⟩ => q J H _ Ext.refl rh (.str _)
  · cases h
theorem se_glo {i : Nat} {y : Str} {c : Cs} {F : Fns} {G : List D} (o : Ok c F G X) (h : c.gn[i]? = some y) (hg : c.glb y = true) : SE X (.Name y pos) (evE F G (.glo i)) := by
  obtain ⟨h1, h2⟩ := glb_ok o hg
  refine SE.plain ?_ (fun _ => rfl)
  cases e : G[i]? with
  | none => exact ⟨fun pins s σ H Q I ⟨ρ, hh, J, re, rh, q⟩ => by exact False.elim q⟩
  | some d =>
    obtain ⟨v, u, hm, rv, rd⟩ := o.glo i y d h e
    exact (pe_glob h1 hm rv h2).imp fun σ H Q ⟨ρ, hh, J, re, rh, q⟩ => by
      exact q J H v Ext.refl rh (rd J H)

/-! ### operators -/
theorem se_bin' {op : Operator} {f : Hh → D → D → Option D} (ho : OpR X (binaryOp op) (rOp X.K f)) (ha : SE X a pa) (hb : SE X b pb) :
    SE X (.BinOp a op b pos) (.plain fun ρ h => (pa.v ρ h).bind fun x h1 => (pb.v ρ h1).bind fun y h2 => R.opt (f h2 x y) h2) := by
  refine SE.plain ((pe_op ho ha.v hb.v).imp fun σ H Q ⟨ρ, h, J, re, rh, q⟩ => ?_) (fun _ => rfl)
  refine (Post.step (R1 := rD X.K) (f := pa.v) re rh q).mono fun x H1 ⟨J1, h1, dx, e1, re1, rh1, rx, q1⟩ => ?_
  refine (Post.step (R1 := rD X.K) (f := pb.v) re1 rh1 q1).mono fun y H2 ⟨J2, h2, dy, e2, re2, rh2, ry, q2⟩ => ?_
  obtain ⟨d, hd, q3⟩ := Post.optX q2
  exact ⟨J2, h2, dx, dy, d, rh2, rx.ext e2, ry, hd, q3⟩
def bopM : BOp → Operator → Bool
  | .add, .Add => true
  | .sub, .Sub => true
  | .mul, .Mult => true
  | .fdiv, .FloorDiv => true
  | .mod, .Mod => true
  | .pow, .Pow => true
  | _, _ => false
theorem bopM_ok {o : BOp} {p : Operator} (h : bopM o p = true) : OpR X (binaryOp p) (rOp X.K (opBin o)) := by
  unfold bopM at h
  split at h
  · exact ops_add
  · exact ops_sub
  · exact ops_mul
  · exact ops_fdiv
  · exact ops_mod
  · exact ops_pow
  · cases h
def copM : COp → CmpOp → Bool
  | .eq, .Eq => true
  | .ne, .NotEq => true
  | .lt, .Lt => true
  | .le, .LtE => true
  | .gt, .Gt => true
  | .ge, .GtE => true
  | .inn, .In => true
  | .nin, .NotIn => true
  | .is, .Is => true
  | .isn, .IsNot => true
  | _, _ => false
theorem copM_ok (hu : X.A.units + 200 < cLine) {o : COp} {p : CmpOp} (h : copM o p = true) : OpR X (compareOp p) (rCmp X.K (opCmp o)) := by
  unfold copM at h
  split at h
  · exact ops_eq (by omega)
  · exact ops_ne (by omega)
  · exact ops_lt
  · exact ops_le
  · exact ops_gt
  · exact ops_ge
  · exact ops_in (by omega)
  · exact ops_nin (by omega)
  · exact ops_is
  · exact ops_isn
  · cases h
/-- a test that is known as a value -/
theorem pt_ofV {e : Expr} {r : TE} (h : PT X e (tTest r)) {t : L2.St → Hp → (Bool → Hp → Prop) → Prop} (i : ∀ σ H Q, t σ H Q → r σ H fun x H' => ∃ k, x = .bl k ∧ Q k H') : PT X e t := h.imp i
theorem se_cmp' {op : CmpOp} {f : Hh → D → D → Option Bool} (ho : OpR X (compareOp op) (rCmp X.K f)) (hp : plainX b = true) (ha : SE X a pa) (hb : SE X b pb) :
    SE X (.Compare a [op] [b] pos) (.plain fun ρ h => (pa.v ρ h).bind fun x h1 => (pb.v ρ h1).bind fun y h2 => R.opt ((f h2 x y).map D.bl) h2) := by
  have core : ∀ {σ : L2.St} {H : Hp} {ρ : Env} {h : Hh} {J : Jn} {Q : V → Hp → Prop} {α β : Type} {Rl : RelA α β} {g : D → Hh → R α} {Q' : β → Hp → Prop}, RE X.K J H ρ σ → RH X.K J h H →
      Post X.K J H Rl (((pa.v ρ h).bind fun x h1 => (pb.v ρ h1).bind fun y h2 => R.opt ((f h2 x y).map D.bl) h2).bind g) Q' →
      (∀ (k : Bool) (H' : Hp) (J' : Jn) (h' : Hh), RE X.K J' H' ρ σ → RH X.K J' h' H' → Post X.K J' H' Rl (g (.bl k) h') Q' → Q (.bl k) H') →
      tOp (rCmp X.K f) (tG X.K (rD X.K) pa.v) (tG X.K (rD X.K) pb.v) σ H Q := by
    intro σ H ρ h J Q α β Rl g Q' re rh q fin
    simp only [R.bind_assoc] at q
    refine (Post.step (R1 := rD X.K) (f := pa.v) re rh q).mono fun x H1 ⟨J1, h1, dx, e1, re1, rh1, rx, q1⟩ => ?_
    refine (Post.step (R1 := rD X.K) (f := pb.v) re1 rh1 q1).mono fun y H2 ⟨J2, h2, dy, e2, re2, rh2, ry, q2⟩ => ?_
    cases hd : f h2 dx dy with
    | none => rw [hd] at q2; exact False.elim q2
    | some k => rw [hd] at q2; exact ⟨J2, h2, dx, dy, k, rh2, rx.ext e2, ry, hd, fin k H2 J2 h2 re2 rh2 q2⟩
  refine ⟨(pe_cmpR ho ha.v hb.v (plain_mark hp _)).imp fun σ H Q ⟨ρ, h, J, re, rh, q⟩ => ?_, (pt_cmpR ho ha.v hb.v (plain_mark hp _)).imp fun σ H Q ⟨ρ, h, J, re, rh, q⟩ => ?_⟩
  · have as2 : ∀ r : R D, r = r.bind fun x h => .ok x h := fun r => by cases r <;> rfl
    dsimp only [P.plain] at q
    rw [as2 ((pa.v ρ h).bind _)] at q
    exact core re rh q fun k H' J' h' _ rh' q' => q' J' H' _ Ext.refl rh' (.bl k)
  · exact core re rh q fun k H' J' h' _ rh' q' => ⟨k, rfl, q' J' H' k Ext.refl rh' rfl⟩
end
end PV
end

section
set_option maxRecDepth 100000
namespace PV
open L2 PySem PySem.Spec PyProof.Rows
section
variable {X : Cx} {e x a b : Expr} {p pa pb pc : P} {pos : Pos}

/-! ### chains -/
theorem se_chain {op op' : CmpOp} {f f' : Hh → D → D → Option Bool} {c : Expr} (ho : OpR X (compareOp op) (rCmp X.K f)) (ho' : OpR X (compareOp op') (rCmp X.K f')) (hp : plainX c = true) (ha : SE X a pa) (hb : SE X b pb) (hc : SE X c pc) :
    SE X (.Compare a [op, op'] [b, c] pos) (.plain fun ρ h => (pa.v ρ h).bind fun x h1 => (pb.v ρ h1).bind fun y h2 => (R.opt (f h2 x y) h2).bind fun t h3 =>
      if t then (pc.v ρ h3).bind fun z h4 => R.opt ((f' h4 y z).map D.bl) h4 else .ok (.bl false) h3) := by
  have core : ∀ {σ : L2.St} {H : Hp} {ρ : Env} {h : Hh} {J : Jn} {Q : V → Hp → Prop} {α β : Type} {Rl : RelA α β} {g : D → Hh → R α} {Q' : β → Hp → Prop}, RE X.K J H ρ σ → RH X.K J h H →
      Post X.K J H Rl (((pa.v ρ h).bind fun x h1 => (pb.v ρ h1).bind fun y h2 => (R.opt (f h2 x y) h2).bind fun t h3 =>
      if t then (pc.v ρ h3).bind fun z h4 => R.opt ((f' h4 y z).map D.bl) h4 else .ok (.bl false) h3).bind g) Q' →
      (∀ (k : Bool) (H' : Hp) (J' : Jn) (h' : Hh), RE X.K J' H' ρ σ → RH X.K J' h' H' → Post X.K J' H' Rl (g (.bl k) h') Q' → Q (.bl k) H') →
      tChain (rCmp X.K f) (rCmp X.K f') (tG X.K (rD X.K) pa.v) (tG X.K (rD X.K) pb.v) (tG X.K (rD X.K) pc.v) σ H Q := by
    intro σ H ρ h J Q α β Rl g Q' re rh q fin
    simp only [R.bind_assoc] at q
    refine (Post.step (R1 := rD X.K) (f := pa.v) re rh q).mono fun x H1 ⟨J1, h1, dx, e1, re1, rh1, rx, q1⟩ => ?_
    refine (Post.step (R1 := rD X.K) (f := pb.v) re1 rh1 q1).mono fun y H2 ⟨J2, h2, dy, e2, re2, rh2, ry, q2⟩ => ?_
    cases hd : f h2 dx dy with
    | none => rw [hd] at q2; exact False.elim q2
    | some k =>
      rw [hd] at q2
      refine ⟨J2, h2, dx, dy, k, rh2, rx.ext e2, ry, hd, k, rfl, ?_⟩
      cases k with
      | false => exact fin false H2 J2 h2 re2 rh2 q2
      | true =>
        simp only [R.opt_some, R.bind_ok, if_true, R.bind_assoc] at q2 ⊢
        refine (Post.step (R1 := rD X.K) (f := pc.v) re2 rh2 q2).mono fun z H3 ⟨J3, h3, dz, e3, re3, rh3, rz, q3⟩ => ?_
        cases hd' : f' h3 dy dz with
        | none => rw [hd'] at q3; exact False.elim q3
        | some k' => rw [hd'] at q3; exact ⟨J3, h3, dy, dz, k', rh3, ry.ext e3, rz, hd', fin k' H3 J3 h3 re3 rh3 q3⟩
  have hm : lastMarks [op, op'] [b, c] = false := plain_mark hp _
  refine ⟨(pe_chain ho ho' ha.v hb.v hc.v hm).imp fun σ H Q ⟨ρ, h, J, re, rh, q⟩ => ?_, (pt_chain ho ho' ha.v hb.v hc.v hm).imp fun σ H Q ⟨ρ, h, J, re, rh, q⟩ => ?_⟩
  · have as2 : ∀ r : R D, r = r.bind fun x h => .ok x h := fun r => by cases r <;> rfl
    dsimp only [P.plain] at q
    rw [as2 ((pa.v ρ h).bind _)] at q
    exact core re rh q fun k H' J' h' _ rh' q' => q' J' H' _ Ext.refl rh' (.bl k)
  · exact core re rh q fun k H' J' h' _ rh' q' => ⟨k, rfl, q' J' H' k Ext.refl rh' rfl⟩

/-! ### and, or, not -/
theorem vBl_inv {α β : Type} {Rl : RelA α β} {J : Jn} {H : Hp} {d : D} {v : V} {h : Hh} {g : Bool → Hh → R α} {Q : β → Hp → Prop} (r : RD X.K J H d v) (q : Post X.K J H Rl ((vBl d h).bind g) Q) : ∃ t, v = .bl t ∧ Post X.K J H Rl (g t h) Q := by
  cases d with
  | bl t => exact ⟨t, r.bl_inv, q⟩
  | _ => exact False.elim q
theorem isEmpty_cons_false {es : List Expr} (h : es.isEmpty = false) : ∃ b r, es = b :: r := by
  cases es with
  | nil => cases h
  | cons b r => exact ⟨b, r, rfl⟩
theorem ses_nil : SEs X [] ⟨true, fun _ h => .ok [] h, fun _ _ => .bad, fun _ _ => .bad, fun _ _ => .bad, fun _ _ => .bad⟩ where
  l := pa_nil.imp fun σ H Q ⟨ρ, h, J, re, rh, q⟩ => q J H [] Ext.refl rh .nil
  nil := rfl
  kw := fun kws e => by
    cases kws with
    | nil => exact ⟨fun pos pins s σ H Q I ⟨ρ, h, J, re, rh, q⟩ => pk_nil.run pos pins s σ H Q I (q J H [] Ext.refl rh .nil)⟩
    | cons _ _ => cases e
  an := fun _ => ⟨fun _ _ _ _ _ _ ⟨_, _, _, _, _, q⟩ => False.elim q⟩
  on := fun _ => ⟨fun _ _ _ _ _ _ ⟨_, _, _, _, _, q⟩ => False.elim q⟩
  at_ := fun _ => ⟨fun _ _ _ _ _ _ _ ⟨_, _, _, _, _, q⟩ => False.elim q⟩
  ot := fun _ => ⟨fun _ _ _ _ _ _ _ ⟨_, _, _, _, _, q⟩ => False.elim q⟩
/-- and, of one and more -/
theorem pe_andV {es : List Expr} {pl : PL} (ha : SE X a pa) (hl : SEs X es pl) (hn : es.isEmpty = false) :
    PE X (.BoolOp .And (a :: es) pos) (tG X.K (rD X.K) fun ρ h => (pa.v ρ h).bind fun x h1 => (vBl x h1).bind fun t h2 => if t then pl.an ρ h2 else .ok (.bl false) h2) := by
  obtain ⟨b, r, rfl⟩ := isEmpty_cons_false hn
  refine (pe_and ha.v (hl.an pos)).imp fun σ H Q ⟨ρ, h, J, re, rh, q⟩ => ?_
  refine (Post.step (R1 := rD X.K) (f := pa.v) re rh q).mono fun x H1 ⟨J1, h1, dx, e1, re1, rh1, rx, q1⟩ => ?_
  obtain ⟨t, rfl, q2⟩ := vBl_inv rx q1
  refine ⟨t, rfl, ?_⟩
  cases t with
  | true => exact ⟨ρ, h1, J1, re1, rh1, q2⟩
  | false => exact q2 J1 H1 _ Ext.refl rh1 (.bl false)
theorem pe_orV {es : List Expr} {pl : PL} (ha : SE X a pa) (hl : SEs X es pl) (hn : es.isEmpty = false) :
    PE X (.BoolOp .Or (a :: es) pos) (tG X.K (rD X.K) fun ρ h => (pa.v ρ h).bind fun x h1 => (vBl x h1).bind fun t h2 => if t then .ok (.bl true) h2 else pl.on ρ h2) := by
  obtain ⟨b, r, rfl⟩ := isEmpty_cons_false hn
  refine (pe_or ha.v (hl.on pos)).imp fun σ H Q ⟨ρ, h, J, re, rh, q⟩ => ?_
  refine (Post.step (R1 := rD X.K) (f := pa.v) re rh q).mono fun x H1 ⟨J1, h1, dx, e1, re1, rh1, rx, q1⟩ => ?_
  obtain ⟨t, rfl, q2⟩ := vBl_inv rx q1
  refine ⟨t, rfl, ?_⟩
  cases t with
  | false => exact ⟨ρ, h1, J1, re1, rh1, q2⟩
  | true => exact q2 J1 H1 _ Ext.refl rh1 (.bl true)
theorem pw_andV {es : List Expr} {pl : PL} (ha : SE X a pa) (hl : SEs X es pl) (hn : es.isEmpty = false) :
    PW X (.BoolOp .And (a :: es) pos) (tG X.K rB fun ρ h => (pa.t ρ h).bind fun t h1 => if t then pl.at_ ρ h1 else .ok false h1) := by
  obtain ⟨b, r, rfl⟩ := isEmpty_cons_false hn
  refine (pw_and ha.t (hl.at_ pos)).imp fun σ H Q ⟨ρ, h, J, re, rh, q⟩ => ?_
  refine (Post.step (R1 := rB) (f := pa.t) re rh q).mono fun x H1 ⟨J1, h1, t, e1, re1, rh1, rx, q1⟩ => ?_
  have rx : t = x := rx
  subst rx
  cases t with
  | true => exact ⟨ρ, h1, J1, re1, rh1, q1⟩
  | false => exact q1 J1 H1 _ Ext.refl rh1 rfl
theorem pw_orV {es : List Expr} {pl : PL} (ha : SE X a pa) (hl : SEs X es pl) (hn : es.isEmpty = false) :
    PW X (.BoolOp .Or (a :: es) pos) (tG X.K rB fun ρ h => (pa.t ρ h).bind fun t h1 => if t then .ok true h1 else pl.ot ρ h1) := by
  obtain ⟨b, r, rfl⟩ := isEmpty_cons_false hn
  refine (pw_or ha.t (hl.ot pos)).imp fun σ H Q ⟨ρ, h, J, re, rh, q⟩ => ?_
  refine (Post.step (R1 := rB) (f := pa.t) re rh q).mono fun x H1 ⟨J1, h1, t, e1, re1, rh1, rx, q1⟩ => ?_
  have rx : t = x := rx
  subst rx
  cases t with
  | false => exact ⟨ρ, h1, J1, re1, rh1, q1⟩
  | true => exact q1 J1 H1 _ Ext.refl rh1 rfl
theorem ses_cons {es : List Expr} {pl : PL} (hp : plainX a = true) (ha : SE X a pa) (hl : SEs X es pl) : SEs X (a :: es) ⟨false,
      fun ρ h => (pa.v ρ h).bind fun x h1 => (pl.l ρ h1).bind fun xs h2 => .ok (x :: xs) h2,
      fun ρ h => if pl.nil then pa.v ρ h else (pa.v ρ h).bind fun x h1 => (vBl x h1).bind fun t h2 => if t then pl.an ρ h2 else .ok (.bl false) h2,
      fun ρ h => if pl.nil then pa.v ρ h else (pa.v ρ h).bind fun x h1 => (vBl x h1).bind fun t h2 => if t then .ok (.bl true) h2 else pl.on ρ h2,
      fun ρ h => if pl.nil then pa.t ρ h else (pa.t ρ h).bind fun t h1 => if t then pl.at_ ρ h1 else .ok false h1,
      fun ρ h => if pl.nil then pa.t ρ h else (pa.t ρ h).bind fun t h1 => if t then .ok true h1 else pl.ot ρ h1⟩ := by
  refine ⟨(pa_cons ha.v hl.l (plain_star hp _ _)).imp fun σ H Q ⟨ρ, h, J, re, rh, q⟩ => ?_, rfl, fun kws ek => ?_, fun pos => ?_, fun pos => ?_, fun pos => ?_, fun pos => ?_⟩
  · refine (Post.step (R1 := rD X.K) (f := pa.v) re rh q).mono fun x H1 ⟨J1, h1, dx, e1, re1, rh1, rx, q1⟩ => ?_
    refine (Post.step (R1 := rDs X.K) (f := pl.l) re1 rh1 q1).mono fun xs H2 ⟨J2, h2, ds, e2, re2, rh2, rs, q2⟩ => ?_
    exact q2 J2 H2 _ Ext.refl rh2 (.cons (rx.ext e2) rs)
  · cases kws with
    | nil => cases ek
    | cons k kws =>
      obtain ⟨nm, e, kp⟩ := k
      simp only [List.map_cons, List.cons.injEq] at ek
      obtain ⟨rfl, ek⟩ := ek
      refine ⟨fun pos pins s σ H Q I ⟨ρ, h, J, re, rh, q⟩ => (pk_cons ha.v (hl.kw kws ek)).run pos pins s σ H Q I ?_⟩
      refine (Post.step (R1 := rD X.K) (f := pa.v) re rh q).mono fun x H1 ⟨J1, h1, dx, e1, re1, rh1, rx, q1⟩ => ?_
      refine (Post.step (R1 := rDs X.K) (f := pl.l) re1 rh1 q1).mono fun xs H2 ⟨J2, h2, ds, e2, re2, rh2, rs, q2⟩ => ?_
      exact q2 J2 H2 _ Ext.refl rh2 (.cons (rx.ext e2) rs)
  all_goals
    cases hn : es.isEmpty with
    | true =>
      have he : es = [] := by cases es with | nil => rfl | cons _ _ => cases hn
      subst he
      simp only [hl.nil, hn, if_true]
      first | exact pe_one ha.v | exact pw_and1 ha.t | exact pw_or1 ha.t
    | false =>
      simp only [hl.nil, hn, Bool.false_eq_true, if_false]
      first | exact pe_andV ha hl hn | exact pe_orV ha hl hn | exact pw_andV ha hl hn | exact pw_orV ha hl hn
theorem se_and {es : List Expr} {pl : PL} (ha : SE X a pa) (hl : SEs X es pl) (hn : es.isEmpty = false) : SE X (.BoolOp .And (a :: es) pos) ⟨fun ρ h => (pa.v ρ h).bind fun x h1 => (vBl x h1).bind fun t h2 => if t then pl.an ρ h2 else .ok (.bl false) h2,
    fun ρ h => (pa.t ρ h).bind fun t h1 => if t then pl.at_ ρ h1 else .ok false h1⟩ := ⟨pe_andV ha hl hn, (pw_andV ha hl hn).pt⟩
theorem se_or {es : List Expr} {pl : PL} (ha : SE X a pa) (hl : SEs X es pl) (hn : es.isEmpty = false) : SE X (.BoolOp .Or (a :: es) pos) ⟨fun ρ h => (pa.v ρ h).bind fun x h1 => (vBl x h1).bind fun t h2 => if t then .ok (.bl true) h2 else pl.on ρ h2,
    fun ρ h => (pa.t ρ h).bind fun t h1 => if t then .ok true h1 else pl.ot ρ h1⟩ := ⟨pe_orV ha hl hn, (pw_orV ha hl hn).pt⟩
theorem se_not (ha : SE X a pa) : SE X (.UnaryOp .Not a pos) ⟨fun ρ h => (pa.v ρ h).bind fun x h1 => (vBl x h1).bind fun t h2 => .ok (.bl (!t)) h2, fun ρ h => (pa.t ρ h).bind fun t h1 => .ok (!t) h1⟩ := by
  refine ⟨(pe_not ha.v).imp fun σ H Q ⟨ρ, h, J, re, rh, q⟩ => ?_, (pt_not ha.t).imp fun σ H Q ⟨ρ, h, J, re, rh, q⟩ => ?_⟩
  · refine (Post.step (R1 := rD X.K) (f := pa.v) re rh q).mono fun x H1 ⟨J1, h1, dx, e1, re1, rh1, rx, q1⟩ => ?_
    obtain ⟨t, rfl, q2⟩ := vBl_inv rx q1
    exact ⟨t, rfl, q2 J1 H1 _ Ext.refl rh1 (.bl _)⟩
  · refine (Post.step (R1 := rB) (f := pa.t) re rh q).mono fun x H1 ⟨J1, h1, t, e1, re1, rh1, rx, q1⟩ => ?_
    cases rx
    exact q1 J1 H1 _ Ext.refl rh1 rfl
theorem se_neg (ha : SE X a pa) : SE X (.UnaryOp .USub a pos) (.plain fun ρ h => (pa.v ρ h).bind fun x h1 => R.opt (x.isInt.map fun i => .int (-i)) h1) := by
  refine SE.plain ((pe_un un_neg ha.v).imp fun σ H Q ⟨ρ, h, J, re, rh, q⟩ => ?_) (fun _ => rfl)
  refine (Post.step (R1 := rD X.K) (f := pa.v) re rh q).mono fun x H1 ⟨J1, h1, dx, e1, re1, rh1, rx, q1⟩ => ?_
  cases dx with
  | int i => exact ⟨i, rx.int_inv, q1 J1 H1 _ Ext.refl rh1 (.int _)⟩
  | _ => exact False.elim q1
theorem isTrue_if {c : Expr} {M : Model} {A : Around} {E : Value → Shared → Prop} {s : Shared} {env : PySem.Env} {whole : Sem Value} {Q : Bool → Shared → Prop}
    (h : wpAny M A (isTrue c env (eval c env)) (fun t s' => if t = true then wpAny M A (isTrue a env (eval a env)) Q E s' else wpAny M A (isTrue b env (eval b env)) Q E s') E s) : wpAny M A (isTrue (.IfExp c a b pos) env whole) Q E s := by
  show wpAny M A (do if ← isTrue c env (eval c env) then isTrue a env (eval a env) else isTrue b env (eval b env)) Q E s
  refine wpAny_bind (wpAny_mono h (fun t s' q => ?_) fun _ _ z => z)
  cases t with
  | true => exact q
  | false => exact q
theorem se_ite {c : Expr} (hc : SE X c pc) (ha : SE X a pa) (hb : SE X b pb) : SE X (.IfExp c a b pos) ⟨fun ρ h => (pc.t ρ h).bind fun t h1 => if t then pa.v ρ h1 else pb.v ρ h1, fun ρ h => (pc.t ρ h).bind fun t h1 => if t then pa.t ρ h1 else pb.t ρ h1⟩ := by
  refine ⟨(pe_ifExp hc.t ha.v hb.v).imp fun σ H Q ⟨ρ, h, J, re, rh, q⟩ => ?_, ⟨fun pins s σ H Q I ⟨ρ, h, J, re, rh, q⟩ => isTrue_if ?_⟩⟩
  · refine (Post.step (R1 := rB) (f := pc.t) re rh q).mono fun x H1 ⟨J1, h1, t, e1, re1, rh1, rx, q1⟩ => ?_
    have rx : t = x := rx
    subst rx
    cases t with
    | true => exact ⟨ρ, h1, J1, re1, rh1, q1⟩
    | false => exact ⟨ρ, h1, J1, re1, rh1, q1⟩
  · refine thn (hc.t.run pins s σ H _ I (Post.step (R1 := rB) (f := pc.t) re rh q)) fun t s' ⟨H1, I1, J1, h1, t', e1, re1, rh1, rx, q1⟩ => ?_
    have rx : t' = t := rx
    subst rx
    cases t' with
    | true => exact ha.t.run pins s' σ H1 Q I1 ⟨ρ, h1, J1, re1, rh1, q1⟩
    | false => exact hb.t.run pins s' σ H1 Q I1 ⟨ρ, h1, J1, re1, rh1, q1⟩

/-! ### subscripts, slices, displays -/
theorem se_idx (hu : X.A.units + 200 < cLine) (hp : plainX b = true) (ha : SE X a pa) (hb : SE X b pb) : SE X (.Subscript a b pos) (.plain fun ρ h => (pa.v ρ h).bind fun x h1 => (pb.v ρ h1).bind fun y h2 => R.opt (opIdx h2 x y) h2) := by
  refine SE.plain ((pe_ix (ix_all (by omega)) ha.v hb.v (plain_ix hp)).imp fun σ H Q ⟨ρ, h, J, re, rh, q⟩ => ?_) (fun _ => rfl)
  refine (Post.step (R1 := rD X.K) (f := pa.v) re rh q).mono fun x H1 ⟨J1, h1, dx, e1, re1, rh1, rx, q1⟩ => ?_
  refine (Post.step (R1 := rD X.K) (f := pb.v) re1 rh1 q1).mono fun y H2 ⟨J2, h2, dy, e2, re2, rh2, ry, q2⟩ => ?_
  obtain ⟨d, hd, q3⟩ := Post.optX q2
  exact ⟨J2, h2, dx, dy, d, rh2, rx.ext e2, ry, hd, q3⟩
abbrev rO : RelA (Option Int) (Option Int) := fun _ _ a b => a = b
theorem so_none {pl : P} : PO X none (tG X.K rO (vPart true pl)) :=
  ⟨fun pins s σ H Q I ⟨ρ, h, J, re, rh, q⟩ => po_none.run pins s σ H Q I (q J H none Ext.refl rh rfl)⟩
theorem so_some (ha : SE X a pa) : PO X (some a) (tG X.K rO (vPart false pa)) := by
  refine ⟨fun pins s σ H Q I ⟨ρ, h, J, re, rh, q⟩ => (po_some ha.v).run pins s σ H Q I ?_⟩
  have q' : Post X.K J H rO ((pa.v ρ h).bind fun d h1 => R.opt (d.isInt.map some) h1) Q := q
  refine (Post.step (R1 := rD X.K) (f := pa.v) re rh q').mono fun x H1 ⟨J1, h1, d, e1, re1, rh1, rx, q1⟩ => ?_
  cases d with
  | int i => exact ⟨i, rx.int_inv, q1 J1 H1 _ Ext.refl rh1 rfl⟩
  | _ => exact False.elim q1
theorem se_slc {lo hi : Option Expr} {pl ph : P} {ml mh : Bool} {sp : Pos} (ha : SE X a pa) (hl : PO X lo (tG X.K rO (vPart ml pl))) (hh : PO X hi (tG X.K rO (vPart mh ph))) :
    SE X (.Subscript a (.Slice lo hi none sp) pos) (.plain fun ρ h => (pa.v ρ h).bind fun x h1 => (vPart ml pl ρ h1).bind fun l h2 => (vPart mh ph ρ h2).bind fun u h3 => R.opt (opSlc h3 x l u) h3) := by
  refine SE.plain ((pe_slice sl_all ha.v hl hh).imp fun σ H Q ⟨ρ, h, J, re, rh, q⟩ => ?_) (fun _ => rfl)
  refine (Post.step (R1 := rD X.K) (f := pa.v) re rh q).mono fun x H1 ⟨J1, h1, dx, e1, re1, rh1, rx, q1⟩ => ?_
  refine (Post.step (R1 := rO) (f := vPart ml pl) re1 rh1 q1).mono fun y H2 ⟨J2, h2, l, e2, re2, rh2, ry, q2⟩ => ?_
  refine (Post.step (R1 := rO) (f := vPart mh ph) re2 rh2 q2).mono fun z H3 ⟨J3, h3, u, e3, re3, rh3, rz, q3⟩ => ?_
  have ry : l = y := ry
  have rz : u = z := rz
  subst ry rz
  obtain ⟨d, hd, q4⟩ := Post.optX q3
  exact ⟨J3, h3, dx, d, rh3, (rx.ext e2).ext e3, hd, q4⟩
theorem se_tup {es : List Expr} {pl : PL} {k : Nat} (hl : SEs X es pl) : SE X (.Tuple es k pos) (.plain fun ρ h => (pl.l ρ h).bind fun xs h1 => if sizeOk xs.length then .ok (.tup xs) h1 else .bad) := by
  refine SE.plain ((pe_tup hl.l).imp fun σ H Q ⟨ρ, h, J, re, rh, q⟩ => ?_) (fun _ => rfl)
  refine (Post.step (R1 := rDs X.K) (f := pl.l) re rh q).mono fun xs H1 ⟨J1, h1, ds, e1, re1, rh1, rs, q1⟩ => ?_
  split at q1
  · rename_i hz
    have hz' : xs.length ≤ sizeLine := by rw [← rs.length]; exact size_of hz
    exact ⟨hz', fun p np => q1 _ _ _ (Ext.laid np) (rh1.laid np) (RD.newTup rh1 np rs hz')⟩
  · exact False.elim q1

/-! ### new lists -/
/-- a reading that ends in a new list -/
def tF (K : PySem.W.Frag) (v : Env → Hh → R D) : TE := fun σ H Q => ∃ ρ h J, RE K J H ρ σ ∧ RH K J h H ∧ match v ρ h with
  | .ok (.lst ds) h' => ∀ J' H' a vs, Ext J H ⟨J'.l, J.z⟩ H' → J'.z = a :: J.z → RH K J' h' H' → H' a = some (.lst vs) → vs.length ≤ sizeLine → RDs K J' H' ds vs → H a = none → Q (.ref a) H'
  | _ => False
theorem tF_of {K : PySem.W.Frag} {v : Env → Hh → R D} {σ : L2.St} {H : Hp} {Q : VK} (hl : ∀ ρ h d h', v ρ h = .ok d h' → ∃ ds, d = .lst ds) (t : tG K (rD K) v σ H Q) : tF K v σ H Q := by
  obtain ⟨ρ, h, J, re, rh, q⟩ := t
  refine ⟨ρ, h, J, re, rh, ?_⟩
  cases ev : v ρ h with
  | ok d h' =>
    rw [ev] at q
    obtain ⟨ds, rfl⟩ := hl ρ h d h' ev
    intro J' H' a vs e ez rh' ha hz rs na
    obtain ⟨l', z'⟩ := J'
    simp only at ez e
    subst ez
    exact q _ H' _ e (rh'.show_ (J := ⟨l', J.z⟩)) (.lst (rh'.apart a List.mem_cons_self) (fun z => rh.notz na z) ha hz (rs.sub (Sub.show_ (J := ⟨l', J.z⟩))))
  | bad => rw [ev] at q; exact q
  | err _ _ => rw [ev] at q; exact q
theorem tF_val {v : Env → Hh → R D} (hv : PE X e (tF X.K v)) (hl : ∀ ρ h d h', v ρ h = .ok d h' → ∃ ds, d = .lst ds) : PE X e (tG X.K (rD X.K) v) := hv.imp fun σ H Q t => tF_of hl t
theorem se_lstF {es : List Expr} {pl : PL} (hl : SEs X es pl) : PE X (.List es pos) (tF X.K fun ρ h => (pl.l ρ h).bind fun xs h1 => if sizeOk xs.length then .ok (.lst xs) h1 else .bad) := by
  refine (pe_lst hl.l).imp fun σ H Q ⟨ρ, h, J, re, rh, q⟩ => ?_
  refine ⟨ρ, h, J, re, rh, ?_⟩
  dsimp only at q
  cases ev : pl.l ρ h with
  | ok ds h1 =>
    rw [ev, R.bind_ok] at q
    split at q
    · rename_i ds' h1' heq
      split at heq
      · rename_i hz; cases heq
        intro J1 H1 vs e1 rh1 rs
        have hz' : vs.length ≤ sizeLine := by rw [← rs.length]; exact size_of hz
        refine ⟨hz', fun p np => ?_⟩
        refine q (J1.hide p) _ p vs ⟨rfl, ?_, ?_⟩ ?_ (rh1.hide np) upd_same hz' ((rs.sub (Sub.hide np)).ext (Ext.laid np)) ?_
        · exact e1.pre
        · intro a o n q; rw [upd_ne (ne_of_none (e1.keep a o n q) np)]; exact e1.keep a o n q
        · show p :: J1.z = p :: J.z; rw [e1.z]
        · cases hp : H p with
          | none => rfl
          | some u =>
            exfalso
            by_cases n : p ∈ J.l
            · obtain ⟨m, hm, _⟩ := e1.pre
              obtain ⟨u', h2⟩ := rh1.inl (a := p) (by rw [hm]; exact List.mem_append_left _ n)
              rw [np] at h2; cases h2
            · have := e1.keep p u n hp; rw [np] at this; cases this
      · cases heq
    · exact False.elim q
  | bad => rw [ev] at q; exact False.elim q
  | err _ _ => rw [ev] at q; exact False.elim q
theorem se_lst {es : List Expr} {pl : PL} (hl : SEs X es pl) : SE X (.List es pos) (.plain fun ρ h => (pl.l ρ h).bind fun xs h1 => if sizeOk xs.length then .ok (.lst xs) h1 else .bad) := by
  refine SE.plain (tF_val (se_lstF hl) fun ρ h d h' e => ?_) (fun _ => rfl)
  cases ev : pl.l ρ h with
  | ok ds h1 =>
    rw [ev, R.bind_ok] at e
    split at e
    · cases e; exact ⟨_, rfl⟩
    · cases e
  | bad => rw [ev] at e; cases e
  | err _ _ => rw [ev] at e; cases e
/-- .. that becomes an object -/
theorem tF_new {K : PySem.W.Frag} {v : Env → Hh → R D} {σ : L2.St} {H : Hp} {Q : VK} (t : tG K (rD K) (fun ρ h => (v ρ h).bind newObj) σ H Q) : tF K v σ H Q := by
  obtain ⟨ρ, h, J, re, rh, q⟩ := t
  refine ⟨ρ, h, J, re, rh, ?_⟩
  dsimp only at q
  cases ev : v ρ h with
  | ok d h' =>
    rw [ev, R.bind_ok] at q
    cases d with
    | lst ds =>
      intro J' H' a vs e ez rh' ha hz rs na
      obtain ⟨l', z'⟩ := J'
      simp only at ez e
      subst ez
      have rh2 : RH K (Jn.own ⟨l', J.z⟩ a) (h' ++ [.lst ds]) H' := rh'.own (J := ⟨l', J.z⟩) (fun z => rh.notz na z) ha (.lst hz rs)
      refine q _ H' _ (Ext.own (J' := ⟨l', J.z⟩) na e) rh2 (.ref ?_)
      show (l' ++ [a])[h'.length]? = some a
      have hl : l'.length = h'.length := rh'.len
      rw [← hl, List.getElem?_append_right (Nat.le_refl _)]; simp
    | _ => exact False.elim q
  | bad => rw [ev] at q; exact False.elim q
  | err _ _ => rw [ev] at q; exact False.elim q
theorem se_new {v : Env → Hh → R D} (hv : PE X e (tF X.K v)) (he : ∀ whole, isTrue e X.env whole = (do let v ← whole; standAt e.pos; holding [v] (truthy v))) : SE X e (.plain fun ρ h => (v ρ h).bind newObj) :=
  SE.plain (hv.imp fun σ H Q t => tF_new t) he
end
end PV
end

section
set_option maxRecDepth 100000
namespace PV
open L2 PySem PySem.Spec PyProof.Rows
mutual
theorem same_eq : ∀ x y : D, D.same x y = true → x = y
  | .non, y, h => by cases y <;> simp [D.same] at h; rfl
  | .bl a, y, h => by cases y <;> simp [D.same] at h; rw [h]
  | .int a, y, h => by cases y <;> simp [D.same] at h; rw [h]
  | .str a, y, h => by cases y <;> simp [D.same] at h; rw [h]
  | .ref a, y, h => by cases y <;> simp [D.same] at h; rw [h]
  | .tup a, y, h => by
    cases y with
    | tup b => simp only [D.same] at h; rw [sames_eq a b h]
    | _ => simp [D.same] at h
  | .lst a, y, h => by
    cases y with
    | lst b => simp only [D.same] at h; rw [sames_eq a b h]
    | _ => simp [D.same] at h
  | .ftup a, y, h => by cases y <;> simp [D.same] at h
  | .fz a, y, h => by
    cases y with
    | fz b => simp only [D.same] at h; rw [sames_eq a b h]
    | _ => simp [D.same] at h
theorem sames_eq : ∀ xs ys : List D, D.sames xs ys = true → xs = ys
  | [], [], _ => rfl
  | [], _ :: _, h => by simp [D.sames] at h
  | _ :: _, [], h => by simp [D.sames] at h
  | x :: xs, y :: ys, h => by
    simp only [D.sames, Bool.and_eq_true] at h
    rw [same_eq x y h.1, sames_eq xs ys h.2]
end
theorem Ext.sub {J J' : Jn} {H H' : Hp} (e : Ext J H J' H') : Sub J H J' H' := ⟨fun a o n m q => ⟨e.notin n q, by rw [e.z]; exact m, e.keep a o n q⟩, fun _ _ q => e.get q⟩
theorem Sub.trans {J J' J2 : Jn} {H H' H2 : Hp} (e : Sub J H J' H') (f : Sub J' H' J2 H2) : Sub J H J2 H2 :=
  ⟨fun a o n m q => let ⟨x, y, z⟩ := e.l a o n m q; f.l a o x y z, fun i a q => f.get i a (e.get i a q)⟩
theorem Sub.refl {J : Jn} {H : Hp} : Sub J H J H := ⟨fun a o n m q => ⟨n, m, q⟩, fun _ _ q => q⟩

/-! ### iterators -/
structure ItOk (K : PySem.W.Frag) (J : Jn) (H : Hp) (it : It) (src : Src) : Prop where
  go : ∀ {J2 : Jn} {h2 : Hh} {H2 : Hp} {i : Nat} {d : D}, Sub J H J2 H2 → RH K J2 h2 H2 → src.good h2 = true → src.items[i]? = some d → it.go i H2 ∧ ∀ x H3, it.yld i H2 x H3 → Ext J2 H2 J2 H3 ∧ RH K J2 h2 H3 ∧ RD K J2 H3 d x
  stop : ∀ {J2 : Jn} {h2 : Hh} {H2 : Hp}, Sub J H J2 H2 → RH K J2 h2 H2 → src.good h2 = true → it.stop src.items.length H2
def tI (K : PySem.W.Frag) (f : Env → Hh → R Src) : TI := fun σ H Rr => ∃ ρ h J, RE K J H ρ σ ∧ RH K J h H ∧ match f ρ h with
  | .ok src h' => ∀ J' H' it, Ext J H J' H' → RH K J' h' H' → ItOk K J' H' it src → Rr it H'
  | _ => False
section
variable {X : Cx} {e x a b tg : Expr} {p pa pb pc : P} {pos : Pos} {K : PySem.W.Frag} {J : Jn} {H : Hp} {h : Hh}
theorem itl_ok {a : Addr} {ds : List D} {vs : List V} (st : ∀ {J2 : Jn} {H2 : Hp}, Sub J H J2 H2 → SqL K H2 a vs) (r : RDs K J H ds vs) : ItOk K J H (Itl K a) ⟨ds, none⟩ := by
  refine ⟨fun {J2 h2 H2 i d} s rh _ hd => ?_, fun {J2 h2 H2} s rh _ => ⟨vs, st s, by rw [r.length]; exact Nat.le_refl _⟩⟩
  obtain ⟨v, hv, rv⟩ := r.get hd
  refine ⟨⟨vs, v, st s, hv⟩, fun x H3 ⟨e1, e2⟩ => ?_⟩
  subst e1
  have := e2 vs (st s)
  rw [hv] at this; cases this
  exact ⟨Ext.refl, rh, rv.sub s⟩
theorem itt_ok {a : Addr} {ds : List D} {vs : List V} (q : ∀ {J2 : Jn} {H2 : Hp}, Sub J H J2 H2 → SqT K H2 a vs) (r : RDs K J H ds vs) : ItOk K J H (Itt K a) ⟨ds, none⟩ := by
  refine ⟨fun {J2 h2 H2 i d} s rh _ hd => ?_, fun {J2 h2 H2} s rh _ => ⟨vs, q s, by rw [r.length]; exact Nat.le_refl _⟩⟩
  obtain ⟨v, hv, rv⟩ := r.get hd
  refine ⟨⟨vs, v, q s, hv⟩, fun x H3 ⟨e1, e2⟩ => ?_⟩
  subst e1
  have := e2 vs (q s)
  rw [hv] at this; cases this
  exact ⟨Ext.refl, rh, rv.sub s⟩
theorem itl_ref {i : Nat} {a : Addr} {ds : List D} (q : J.l[i]? = some a) : ItOk K J H (Itl K a) ⟨ds, some i⟩ := by
  have st : ∀ {J2 h2 H2}, Sub J H J2 H2 → RH K J2 h2 H2 → Src.good ⟨ds, some i⟩ h2 = true → ∃ vs, SqL K H2 a vs ∧ RDs K J2 H2 ds vs := fun {J2 h2 H2} s rh g => by
    obtain ⟨o, u, h1, h2', h3⟩ := rh.at (s.get i a q)
    simp only [Src.good, h1] at g
    cases h3 with
    | lst z r => have e := sames_eq _ _ g; subst e; exact ⟨_, .inl (.inl h2'), r⟩
    | dct z r => cases g
  refine ⟨fun {J2 h2 H2 j d} s rh g hd => ?_, fun {J2 h2 H2} s rh g => ?_⟩
  · obtain ⟨vs, hq, r⟩ := st s rh g
    obtain ⟨v, hv, rv⟩ := r.get hd
    refine ⟨⟨vs, v, hq, hv⟩, fun x H3 ⟨e1, e2⟩ => ?_⟩
    subst e1
    have := e2 vs hq
    rw [hv] at this; cases this
    exact ⟨Ext.refl, rh, rv⟩
  · obtain ⟨vs, hq, r⟩ := st s rh g
    exact ⟨vs, hq, by rw [r.length]; exact Nat.le_refl _⟩
theorem itr_ok {lo hi : Int} : ItOk K J H (Itr lo (hi - lo).toNat) ⟨rngD lo hi, none⟩ := by
  have hl : (rngD lo hi).length = (hi - lo).toNat := by simp [rngD]
  refine ⟨fun {J2 h2 H2 i d} s rh _ hd => ?_, fun {J2 h2 H2} s rh _ => by show _ ≤ _; rw [hl]; exact Nat.le_refl _⟩
  have hi' : i < (hi - lo).toNat := by rw [← hl]; exact (List.getElem?_eq_some_iff.mp hd).1
  refine ⟨hi', fun x H3 ⟨e1, e2⟩ => ?_⟩
  subst e1 e2
  refine ⟨Ext.refl, rh, ?_⟩
  simp only [rngD, List.getElem?_map, List.getElem?_range hi', Option.map_some, Option.some.injEq] at hd
  subst hd
  exact .int _
/-- the items that a value gives -/
theorem tup_st {ds : List D} {v : V} (r : RD K J H (.tup ds) v) : ∃ a vs, v = .ref a ∧ (∀ {J2 : Jn} {H2 : Hp}, Sub J H J2 H2 → SqT K H2 a vs) ∧ vs.length ≤ sizeLine ∧ RDs K J H ds vs := by
  cases r with
  | tup n m q z r => exact ⟨_, _, rfl, fun s => .inl (.inl (s.l _ _ n m q).2.2), z, r⟩
  | ktup k z r => exact ⟨_, _, rfl, fun _ => .inr k, z, r⟩
theorem lst_st {d : D} {ds : List D} {v : V} (hd : d = .lst ds ∨ d = .fz ds) (r : RD K J H d v) : ∃ a vs, v = .ref a ∧ (∀ {J2 : Jn} {H2 : Hp}, Sub J H J2 H2 → SqL K H2 a vs) ∧ vs.length ≤ sizeLine ∧ RDs K J H ds vs := by
  rcases hd with rfl | rfl
  · cases r with | lst n m q z r => exact ⟨_, _, rfl, fun s => .inl (.inl (s.l _ _ n m q).2.2), z, r⟩
  · cases r with
    | fz n m q z r => exact ⟨_, _, rfl, fun s => .inl (.inr ⟨_, (s.l _ _ n m q).2.2⟩), z, r⟩
    | kfz k z r => exact ⟨_, _, rfl, fun _ => .inr k, z, r⟩
theorem PI.or {t u : TI} (h : PI X tg e t) (h' : PI X tg e u) : PI X tg e (fun σ H R => t σ H R ∨ u σ H R) := ⟨fun p s σ H R I q => q.elim (h.run p s σ H R I) (h'.run p s σ H R I)⟩
/-- a value that is walked: a list or a tuple -/
theorem pi_any (ha : PE X a (tG X.K (rD X.K) pa.v)) : PI X tg a (tI X.K fun ρ h => (pa.v ρ h).bind fun x h1 => R.opt (x.src h1) h1) := by
  refine ⟨fun pins s σ H Rr I ⟨ρ, h, J, re, rh, q⟩ => ?_⟩
  dsimp only at q
  cases ev : pa.v ρ h with
  | ok d h1 =>
    rw [ev, R.bind_ok] at q
    cases es : d.src h1 with
    | none => rw [es] at q; exact False.elim q
    | some src =>
      rw [es] at q
      have q : ∀ J' H' it, Ext J H J' H' → RH X.K J' h1 H' → ItOk X.K J' H' it src → Rr it H' := q
      have lists : (∃ ds, (d = .lst ds ∨ d = .fz ds) ∧ src = ⟨ds, none⟩) → wpAny (model X.prog X.w) X.A (eval a X.env) (fun v s1 => wpAny (model X.prog X.w) X.A (pyIter v) (PIE X pins σ tg Rr) X.xe s1) X.xe s := by
        rintro ⟨ds, hd, rfl⟩
        refine (pi_list ha).run pins s σ H Rr I ⟨ρ, h, J, re, rh, ?_⟩
        rw [ev]
        intro J' H' v e1 rh' rv
        obtain ⟨p, vs, rfl, hq, z, rr⟩ := lst_st hd rv
        exact ⟨p, rfl, ⟨vs, hq Sub.refl⟩, q J' H' _ e1 rh' (itl_ok hq rr)⟩
      cases d with
      | lst ds => cases es; exact lists ⟨ds, .inl rfl, rfl⟩
      | fz ds => cases es; exact lists ⟨ds, .inr rfl, rfl⟩
      | tup ds =>
        cases es
        refine (pi_tup ha).run pins s σ H Rr I ⟨ρ, h, J, re, rh, ?_⟩
        rw [ev]
        intro J' H' v e1 rh' rv
        obtain ⟨p, vs, rfl, hq, z, rr⟩ := tup_st rv
        exact ⟨p, rfl, ⟨vs, hq Sub.refl⟩, q J' H' _ e1 rh' (itt_ok hq rr)⟩
      | ref i =>
        simp only [D.src] at es
        split at es
        · rename_i ys hys
          cases es
          refine (pi_list ha).run pins s σ H Rr I ⟨ρ, h, J, re, rh, ?_⟩
          rw [ev]
          intro J' H' v e1 rh' rv
          cases rv with
          | ref qi =>
            obtain ⟨o, u, h1', h2', h3⟩ := rh'.at qi
            rw [hys] at h1'; cases h1'
            cases h3 with
            | lst z rr => exact ⟨_, rfl, ⟨_, .inl (.inl h2')⟩, q J' H' _ e1 rh' (itl_ref qi)⟩
        · cases es
      | _ => cases es
  | bad => rw [ev] at q; exact False.elim q
  | err _ _ => rw [ev] at q; exact False.elim q
theorem rngOk_inv {i j : Int} (h : rngOk i j = true) : -(2 ^ 62) ≤ i ∧ i < 2 ^ 62 ∧ -(2 ^ 62) ≤ j ∧ j < 2 ^ 62 := by
  simp only [rngOk, Bool.and_eq_true, decide_eq_true_eq] at h
  exact ⟨h.1.1.1, h.1.1.2, h.1.2, h.2⟩
theorem R.step_inv {α β : Type} {r : R α} {f : α → Hh → R β} {P : R β → Prop} (q : P (r.bind f)) (hb : ¬ P .bad) (he : ∀ x h, ¬ P (.err x h)) : ∃ a h1, r = .ok a h1 ∧ P (f a h1) := by
  cases r with
  | ok a h1 => exact ⟨a, h1, rfl, q⟩
  | bad => exact absurd q hb
  | err x h => exact absurd q (he x h)
/-- what a walk's reading wants -/
def wI (K : PySem.W.Frag) (J : Jn) (H : Hp) (Rr : It → Hp → Prop) (r : R Src) : Prop := match r with
  | .ok src h' => ∀ J' H' it, Ext J H J' H' → RH K J' h' H' → ItOk K J' H' it src → Rr it H'
  | _ => False
theorem wI.step {α β : Type} {R1 : RelA α β} {f : Env → Hh → R α} {g : α → Hh → R Src} {Rr : It → Hp → Prop} {ρ : Env} {σ : L2.St} (re : RE K J H ρ σ) (rh : RH K J h H) (p : wI K J H Rr ((f ρ h).bind g)) :
    tG K R1 f σ H (fun b H1 => ∃ J1 h1 a, Ext J H J1 H1 ∧ RE K J1 H1 ρ σ ∧ RH K J1 h1 H1 ∧ R1 J1 H1 a b ∧ wI K J1 H1 Rr (g a h1)) := by
  refine ⟨ρ, h, J, re, rh, ?_⟩
  cases q : f ρ h with
  | ok a h1 =>
    rw [q, R.bind_ok] at p
    refine fun J1 H1 b e rh1 rl => ⟨J1, h1, a, e, re.ext e, rh1, rl, ?_⟩
    cases q2 : g a h1 with
    | ok src h2 => rw [q2] at p; exact fun J2 H2 it e2 rh2 ok => p J2 H2 it (e.trans rh rh1 e2) rh2 ok
    | bad => rw [q2] at p; exact p
    | err _ _ => rw [q2] at p; exact p
  | bad => rw [q] at p; exact p
  | err _ _ => rw [q] at p; exact p
theorem pi_rng {pp : Pos} (hg : Gl X "range") (hm : X.mg "range" = none) (hp : plainX a = true) (ha : SE X a pa) :
    PI X tg (.Call (.Name "range" pp) [a] [] pos) (tI X.K fun ρ h => (pa.v ρ h).bind fun x h1 => R.opt (x.isInt.bind fun n => if rngOk 0 n then some ⟨rngD 0 n, none⟩ else none) h1) := by
  have hs : starEach [a] X.env = [(false, eval a X.env)] := plain_star hp [] _
  refine (pi_range1 hg hm (pa_cons ha.v pa_nil hs) hs).imp fun σ H Rr ⟨ρ, h, J, re, rh, q⟩ => ?_
  refine (wI.step (R1 := rD X.K) (f := pa.v) re rh q).mono fun x H1 ⟨J1, h1, d, e1, re1, rh1, rx, q1⟩ => ?_
  cases d with
  | int n =>
    simp only [D.isInt, Option.bind_some] at q1
    split at q1
    · rename_i hz
      obtain ⟨_, _, z1, z2⟩ := rngOk_inv hz
      refine ⟨n, by rw [rx.int_inv], z1, z2, ?_⟩
      have := q1 J1 H1 (Itr 0 (n - 0).toNat) Ext.refl rh1 itr_ok
      rwa [Int.sub_zero] at this
    · exact False.elim q1
  | _ => exact False.elim q1
theorem pi_rng2 {pp : Pos} (hg : Gl X "range") (hm : X.mg "range" = none) (hp : plainX a = true) (hp2 : plainX b = true) (ha : SE X a pa) (hb : SE X b pb) :
    PI X tg (.Call (.Name "range" pp) [a, b] [] pos) (tI X.K fun ρ h => (pa.v ρ h).bind fun x h1 => (pb.v ρ h1).bind fun y h2 => R.opt (x.isInt.bind fun i => y.isInt.bind fun j => if rngOk i j then some ⟨rngD i j, none⟩ else none) h2) := by
  have hs2 : starEach [b] X.env = [(false, eval b X.env)] := plain_star hp2 [] _
  have hs : starEach [a, b] X.env = [(false, eval a X.env), (false, eval b X.env)] := by rw [plain_star hp, hs2]
  refine (pi_range2 hg hm (pa_cons ha.v (pa_cons hb.v pa_nil hs2) (plain_star hp _ _)) hs hs2).imp fun σ H Rr ⟨ρ, h, J, re, rh, q⟩ => ?_
  refine (wI.step (R1 := rD X.K) (f := pa.v) re rh q).mono fun x H1 ⟨J1, h1, d, e1, re1, rh1, rx, q1⟩ => ?_
  refine (wI.step (R1 := rD X.K) (f := pb.v) re1 rh1 q1).mono fun y H2 ⟨J2, h2, d2, e2, re2, rh2, ry, q2⟩ => ?_
  cases d with
  | int n =>
    cases d2 with
    | int m =>
      simp only [D.isInt, Option.bind_some] at q2
      split at q2
      · rename_i hz
        exact ⟨n, m, by rw [rx.int_inv, ry.int_inv], rngOk_inv hz, q2 J2 H2 _ Ext.refl rh2 itr_ok⟩
      · exact False.elim q2
    | _ => exact False.elim q2
  | _ => exact False.elim q2

theorem zipD_get {xs ys : List D} {i : Nat} {d : D} (e : (zipD xs ys)[i]? = some d) : ∃ x y, xs[i]? = some x ∧ ys[i]? = some y ∧ d = .tup [x, y] := by
  unfold zipD at e
  rw [List.getElem?_zipWith] at e
  split at e
  · rename_i x y hx hy; cases e; exact ⟨x, y, hx, hy, rfl⟩
  · cases e
theorem zipD_len (xs ys : List D) : xs.length ≤ (zipD xs ys).length ∨ ys.length ≤ (zipD xs ys).length := by
  unfold zipD; rw [List.length_zipWith]; omega
theorem two_ok {x y : V} : [x, y].length ≤ sizeLine := by show 2 ≤ sizeLine; decide
theorem itzT_ok {a b : Addr} {xs ys : List D} {vs ws : List V} (q : ∀ {J2 : Jn} {H2 : Hp}, Sub J H J2 H2 → SqT K H2 a vs) (r : RDs K J H xs vs) (q' : ∀ {J2 : Jn} {H2 : Hp}, Sub J H J2 H2 → SqT K H2 b ws) (r' : RDs K J H ys ws) :
    ItOk K J H (RZ.ItzT K a b) ⟨zipD xs ys, none⟩ := by
  refine ⟨fun {J2 h2 H2 i d} s rh _ hd => ?_, fun {J2 h2 H2} s rh _ => ⟨vs, ws, q s, q' s, by rw [← r.length, ← r'.length]; exact zipD_len xs ys⟩⟩
  obtain ⟨dx, dy, hx, hy, rfl⟩ := zipD_get hd
  obtain ⟨v, hv, rv⟩ := r.get hx
  obtain ⟨w, hw, rw'⟩ := r'.get hy
  refine ⟨⟨vs, ws, v, w, q s, q' s, hv, hw⟩, fun x H3 ⟨T, v', w', e1, nT, e2, f1, f2⟩ => ?_⟩
  have h1 := f1 vs (q s)
  have h2 := f2 ws (q' s)
  rw [hv] at h1; cases h1
  rw [hw] at h2; cases h2
  subst e1 e2
  exact ⟨Ext.laid nT, rh.laid nT, RD.newTup rh nT (.cons (rv.sub s) (.cons (rw'.sub s) .nil)) two_ok⟩
theorem itz_ok {a b : Addr} {xs ys : List D} {vs ws : List V} (q : ∀ {J2 : Jn} {H2 : Hp}, Sub J H J2 H2 → SqL K H2 a vs) (r : RDs K J H xs vs) (q' : ∀ {J2 : Jn} {H2 : Hp}, Sub J H J2 H2 → SqL K H2 b ws) (r' : RDs K J H ys ws) :
    ItOk K J H (Itz K a b) ⟨zipD xs ys, none⟩ := by
  refine ⟨fun {J2 h2 H2 i d} s rh _ hd => ?_, fun {J2 h2 H2} s rh _ => ⟨vs, ws, q s, q' s, by rw [← r.length, ← r'.length]; exact zipD_len xs ys⟩⟩
  obtain ⟨dx, dy, hx, hy, rfl⟩ := zipD_get hd
  obtain ⟨v, hv, rv⟩ := r.get hx
  obtain ⟨w, hw, rw'⟩ := r'.get hy
  refine ⟨⟨vs, ws, v, w, q s, q' s, hv, hw⟩, fun x H3 ⟨T, v', w', e1, nT, e2, f1, f2⟩ => ?_⟩
  have h1 := f1 vs (q s)
  have h2 := f2 ws (q' s)
  rw [hv] at h1; cases h1
  rw [hw] at h2; cases h2
  subst e1 e2
  exact ⟨Ext.laid nT, rh.laid nT, RD.newTup rh nT (.cons (rv.sub s) (.cons (rw'.sub s) .nil)) two_ok⟩
theorem lst_st2 {ds : List D} {v : V} (r : RD K J H (.lst ds) v) : ∃ a vs, v = .ref a ∧ (∀ {J2 : Jn} {H2 : Hp}, Sub J H J2 H2 → SqL K H2 a vs) ∧ RDs K J H ds vs := by
  cases r with | lst n m q z r => exact ⟨_, _, rfl, fun s => .inl (.inl (s.l _ _ n m q).2.2), r⟩
theorem pi_zipS {pp tp : Pos} {elts : List Expr} {kk : Nat} (hg : Gl X "zip") (hm : X.mg "zip" = none) (hp : plainX a = true) (hp2 : plainX b = true) (ha : SE X a pa) (hb : SE X b pb) :
    PI X (.Tuple elts kk tp) (.Call (.Name "zip" pp) [a, b] [] pos) (tI X.K fun ρ h => (pa.v ρ h).bind fun x h1 => (pb.v ρ h1).bind fun y h2 => R.opt (zipSrc x y) h2) := by
  have hs2 : starEach [b] X.env = (false, eval b X.env) :: starEach [] X.env := plain_star hp2 [] _
  refine (RZ.pi_zipA hg hm (pa_cons ha.v (pa_cons hb.v pa_nil hs2) (plain_star hp _ _)) (plain_star hp _ _) (by rw [hs2]; rfl)).imp fun σ H Rr ⟨ρ, h, J, re, rh, q⟩ => ?_
  refine (wI.step (R1 := rD X.K) (f := pa.v) re rh q).mono fun x H1 ⟨J1, h1, d, e1, re1, rh1, rx, q1⟩ => ?_
  refine (wI.step (R1 := rD X.K) (f := pb.v) re1 rh1 q1).mono fun y H2 ⟨J2, h2, d2, e2, re2, rh2, ry, q2⟩ => ?_
  have rx := rx.ext e2
  cases hz : zipSrc d d2 with
  | none => rw [hz] at q2; exact False.elim q2
  | some src =>
    rw [hz] at q2
    unfold zipSrc at hz
    split at hz
    · cases hz
      obtain ⟨p, vs, rfl, hq, z, rr⟩ := tup_st rx
      obtain ⟨p', ws, rfl, hq', z', rr'⟩ := tup_st ry
      exact ⟨p, p', vs, ws, rfl, .inr ⟨hq Sub.refl, hq' Sub.refl, q2 J2 H2 _ Ext.refl rh2 (itzT_ok hq rr hq' rr')⟩⟩
    · cases hz
      obtain ⟨p, vs, rfl, hq, rr⟩ := lst_st2 rx
      obtain ⟨p', ws, rfl, hq', rr'⟩ := lst_st2 ry
      exact ⟨p, p', vs, ws, rfl, .inl ⟨hq Sub.refl, hq' Sub.refl, q2 J2 H2 _ Ext.refl rh2 (itz_ok hq rr hq' rr')⟩⟩
    · cases hz
end
end PV
end

section
set_option maxRecDepth 100000
namespace PV
open L2 PySem PySem.Spec PyProof.Rows
section
variable {X : Cx} {e x a b tg : Expr} {p pa pb pc : P} {pos : Pos} {K : PySem.W.Frag} {J : Jn} {H : Hp} {h : Hh}

/-! ### targets -/
/-- storing an item -/
def gD (K : PySem.W.Frag) (t : Tg) (vs : List Nat) : TG := fun v σ H Q => ∃ ρ ρ' h J d, RE K J H ρ σ ∧ RH K J h H ∧ RD K J H d v ∧ t.put d ρ = some ρ' ∧ ∀ σ', RE K J H ρ' σ' → (∀ j, j ∉ vs → σ'[j]? = σ[j]?) → σ'.length = σ.length → Q σ' H
structure ST (X : Cx) (e : Expr) (t : Tg) (vs : List Nat) : Prop where
  run : PG X e (gD X.K t vs)
theorem st_v {i : Nat} {y : Str} (hN : X.N.Nodup) (hi : X.N[i]? = some y) (hx : L2.Loc X.env.scope y) (hf : X.fn y = true ∨ X.env.scope.names.lookup y = some .local) : ST X (.Name y pos) (.v i) [i] := by
  refine ⟨(pg_name hN hi hx hf).imp fun v σ H Q ⟨ρ, ρ', h, J, d, re, rh, rd, e, q⟩ => ?_⟩
  cases e
  exact q _ (re.set i rd) (fun j hj => by rw [List.getElem?_set_ne]; intro z; subst z; exact hj (by simp)) (by simp)
/-- several names -/
structure STs (X : Cx) (es : List Expr) (is : List Nat) : Prop where
  run : PGs X es (fun vs σ H Q => ∃ ρ ρ' h J ds, RE X.K J H ρ σ ∧ RH X.K J h H ∧ RDs X.K J H ds vs ∧ setAll is ds ρ = some ρ' ∧ ∀ σ', RE X.K J H ρ' σ' → (∀ j, j ∉ is → σ'[j]? = σ[j]?) → σ'.length = σ.length → Q σ' H)
  noStar : ∀ e ∈ es, ∃ y p, e = .Name y p
  len : es.length = is.length
theorem _root_.L2.PGs.imp {X : Cx} {e : List Expr} {t t' : TGs} (h : PGs X e t) (i : ∀ v σ H Q, t' v σ H Q → t v σ H Q) : PGs X e t' := ⟨fun p s σ H v u Q I r q => h.run p s σ H v u Q I r (i v σ H Q q)⟩
theorem sts_nil : STs X [] [] := by
  refine ⟨pgs_nil.imp fun v σ H Q ⟨ρ, ρ', h, J, ds, re, rh, rs, e, q⟩ => ?_, fun _ z => (by cases z), rfl⟩
  cases ds with
  | nil => cases rs; cases e; exact ⟨rfl, q _ re (fun _ _ => rfl) rfl⟩
  | cons _ _ => cases e
theorem sts_cons {i : Nat} {y : Str} {es : List Expr} {is : List Nat} (hN : X.N.Nodup) (hi : X.N[i]? = some y) (hx : L2.Loc X.env.scope y) (hf : X.fn y = true ∨ X.env.scope.names.lookup y = some .local) (hs : STs X es is) : STs X (.Name y pos :: es) (i :: is) := by
  refine ⟨(pgs_cons (pg_name (pos := pos) hN hi hx hf) hs.run rfl).imp fun v σ H Q ⟨ρ, ρ', h, J, ds, re, rh, rs, e, q⟩ => ?_, fun e he => ?_, by simp [hs.len]⟩
  · cases ds with
    | nil => cases e
    | cons d ds =>
      cases rs with
      | cons r t =>
        refine ⟨_, _, rfl, ?_⟩
        refine ⟨ρ.set i (some d), ρ', h, J, ds, re.set i r, rh, t, e, fun σ' re' hk hl => q σ' re' (fun j hj => ?_) (by rw [hl]; simp)⟩
        simp only [List.mem_cons, not_or] at hj
        rw [hk j hj.2, List.getElem?_set_ne (fun z => hj.1 z.symm)]
  · (rcases List.mem_cons.mp he with rfl | he)
    · exact ⟨_, _, rfl⟩
    · exact hs.noStar e he
theorem each_names : ∀ {es : List Expr} (env : PySem.Env), (∀ e ∈ es, ∃ y p, e = Expr.Name y p) → (assignEach es env).length = es.length ∧ (assignEach es env).findIdx? (·.1) = none
  | [], _, _ => ⟨rfl, rfl⟩
  | e :: es, env, h => by
    obtain ⟨y, p, rfl⟩ := h e List.mem_cons_self
    obtain ⟨h1, h2⟩ := each_names (es := es) env fun e he => h e (List.mem_cons_of_mem _ he)
    constructor
    · show (assignEach es env).length + 1 = es.length + 1
      rw [h1]
    · show ((false, assign (.Name y p) env) :: assignEach es env).findIdx? (·.1) = none
      rw [List.findIdx?_cons]
      simp [h2]
theorem setAll_len : ∀ {is : List Nat} {ds : List D} {ρ ρ' : Env}, setAll is ds ρ = some ρ' → ds.length = is.length
  | [], [], _, _, _ => rfl
  | [], _ :: _, _, _, h => by cases h
  | _ :: _, [], _, _, h => by cases h
  | i :: is, d :: ds, ρ, ρ', h => by simp [setAll_len (is := is) (ds := ds) h]
theorem st_tu {es : List Expr} {is : List Nat} {k : Nat} (hc : X.calm = true) (hs : STs X es is) : ST X (.Tuple es k pos) (.tu is) is := by
  obtain ⟨h1, h2⟩ := each_names X.env hs.noStar
  refine ⟨(pg_tup (n := is.length) hc hs.run (h1.trans hs.len) h2).imp fun v σ H Q ⟨ρ, ρ', h, J, d, re, rh, rd, e, q⟩ => ?_⟩
  cases d with
  | tup ds =>
    obtain ⟨a, vs, rfl, hq, z, rs⟩ := rd.tup_inv
    exact ⟨a, vs, rfl, hq, by rw [← rs.length]; exact setAll_len e, ρ, ρ', h, J, ds, re, rh, rs, e, q⟩
  | _ => cases e

/-! ### comprehensions -/
theorem wipe_get {σ : L2.St} : ∀ {vs : List Nat} {j : Nat}, j ∉ vs → (wipe σ vs)[j]? = σ[j]?
  | [], _, _ => rfl
  | v :: vs, j, h => by
    simp only [List.mem_cons, not_or] at h
    unfold wipe
    rw [List.getElem?_set_ne (fun z => h.1 z.symm), wipe_get h.2]
theorem wipe_in {σ : L2.St} : ∀ {vs : List Nat} {j : Nat}, j ∈ vs → j < σ.length → (wipe σ vs)[j]? = some none
  | v :: vs, j, h, hl => by
    unfold wipe
    by_cases hj : v = j
    · subst hj; rw [List.getElem?_set_self (by rw [wipe_length]; exact hl)]
    · rw [List.getElem?_set_ne hj]
      exact wipe_in ((List.mem_cons.mp h).resolve_left fun z => hj z.symm) hl
theorem wipe_same {σ σ' : L2.St} {vs : List Nat} (h : ∀ j, j ∉ vs → σ'[j]? = (wipe σ vs)[j]?) (hl : σ'.length = (wipe σ vs).length) : wipe σ' vs = wipe σ vs := by
  have hl2 : σ'.length = σ.length := by rw [hl, wipe_length]
  apply List.ext_getElem?
  intro j
  by_cases hj : j ∈ vs
  · by_cases hb : j < σ.length
    · rw [wipe_in hj (by rw [hl2]; exact hb), wipe_in hj hb]
    · rw [List.getElem?_eq_none (by rw [wipe_length, hl2]; omega), List.getElem?_eq_none (by rw [wipe_length]; omega)]
  · rw [wipe_get hj, h j hj]
/-- the names ahead of a comprehension, its own forgotten -/
def wipeD : List Nat → Env → Env
  | [], ρ => ρ
  | v :: vs, ρ => (wipeD vs ρ).set v none
theorem RE.wipe {ρ : Env} {σ : L2.St} (r : RE K J H ρ σ) : ∀ vs : List Nat, RE K J H (wipeD vs ρ) (wipe σ vs)
  | [] => r
  | v :: vs => by
    have ih := RE.wipe r vs
    unfold wipeD L2.wipe
    refine ⟨by simp [ih.len], fun j d q => ?_⟩
    by_cases hj : v = j
    · subst hj
      by_cases hl : v < (wipeD vs ρ).length
      · rw [List.getElem?_set_self hl] at q; cases q
      · rw [List.getElem?_eq_none (by simpa using hl)] at q; cases q
    · rw [List.getElem?_set_ne hj] at q
      obtain ⟨w, h1, h2⟩ := ih.get j d q
      exact ⟨w, by rw [List.getElem?_set_ne hj]; exact h1, h2⟩
theorem Sub.re {J J' : Jn} {H H' : Hp} {ρ : Env} {σ : L2.St} (s : Sub J H J' H') (r : RE K J H ρ σ) : RE K J' H' ρ σ := ⟨r.len, fun i d q => let ⟨v, a, b⟩ := r.get i d q; ⟨v, a, b.sub s⟩⟩
theorem setAll_of : ∀ {is : List Nat} {ds : List D} {ρ1 ρ2 : Env}, (∀ j, j ∉ is → ρ1[j]? = ρ2[j]?) → ρ1.length = ρ2.length → setAll is ds ρ1 = setAll is ds ρ2
  | [], [], ρ1, ρ2, h, _ => by
    have : ρ1 = ρ2 := List.ext_getElem? fun j => h j (by simp)
    rw [this]
  | [], _ :: _, _, _, _, _ => rfl
  | _ :: _, [], _, _, _, _ => rfl
  | i :: is, d :: ds, ρ1, ρ2, h, hl => by
    unfold setAll
    refine setAll_of (fun j hj => ?_) (by simp [hl])
    by_cases e : i = j
    · subst e
      rw [List.getElem?_set, List.getElem?_set, hl]
      simp
    · rw [List.getElem?_set_ne e, List.getElem?_set_ne e]
      exact h j (by simp only [List.mem_cons, not_or]; exact ⟨fun z => e z.symm, hj⟩)
theorem wipeD_get {ρ : Env} : ∀ {vs : List Nat} {j : Nat}, j ∉ vs → (wipeD vs ρ)[j]? = ρ[j]?
  | [], _, _ => rfl
  | v :: vs, j, h => by
    simp only [List.mem_cons, not_or] at h
    unfold wipeD
    rw [List.getElem?_set_ne (fun z => h.1 z.symm), wipeD_get h.2]
theorem wipeD_len {ρ : Env} : ∀ {vs : List Nat}, (wipeD vs ρ).length = ρ.length
  | [] => rfl
  | v :: vs => by unfold wipeD; rw [List.length_set, wipeD_len]
theorem put_wipe (t : Tg) (d : D) (ρ : Env) : t.put d (wipeD t.slots ρ) = t.put d ρ := by
  cases t with
  | v i => simp [Tg.put, Tg.slots, wipeD]
  | tu is =>
    unfold Tg.put Tg.slots
    cases d with
    | tup xs => exact setAll_of (fun j hj => wipeD_get hj) wipeD_len
    | _ => rfl
/-- the reading of a comprehension is what the rule wants -/
theorem lc_read {t : Tg} {f : Env → Hh → R Src} {pt pe : P} {σ : L2.St} {Q : VK} (hq : tF K (fun ρ h => (f ρ h).bind fun s h1 => if sizeOk s.items.length then lcLoop s.good (lcTurn t pt pe ρ) s.items [] h1 else .bad) σ H Q) :
    tLc (tI K f) (gD K t t.slots) (tG K rB pt.t) (tG K (rD K) pe.v) t.slots σ H Q := by
  obtain ⟨ρ, h, J, re, rh, q⟩ := hq
  refine ⟨ρ, h, J, re, rh, ?_⟩
  dsimp only at q
  cases ev : f ρ h with
  | bad => rw [ev] at q; exact q
  | err _ _ => rw [ev] at q; exact q
  | ok src h1 =>
    rw [ev, R.bind_ok] at q
    cases hsi : sizeOk src.items.length with
    | false => rw [hsi] at q; exact False.elim q
    | true =>
    rw [hsi] at q
    simp only [if_true] at q
    intro J1 H1 it e1 rh1 itok D nD
    have nDH : H D = none := by
      cases hp : H D with
      | none => rfl
      | some u =>
        exfalso
        by_cases n : D ∈ J.l
        · obtain ⟨m, hm, _⟩ := e1.pre
          obtain ⟨u', h2⟩ := rh1.inl (a := D) (by rw [hm]; exact List.mem_append_left _ n)
          rw [nD] at h2; cases h2
        · have := e1.keep D u n hp; rw [nD] at this; cases this
    -- the loop's word: so many items are gone, what is made so far lies at D
    let W : Nat → Nat → Hp → Prop := fun i m H2 => m = src.items.length - i ∧ i ≤ src.items.length ∧ ∃ J2 h2 acc vs, J2.z = D :: J.z ∧ Ext J H ⟨J2.l, J.z⟩ H2 ∧ Sub J1 H1 J2 H2 ∧ RH K J2 h2 H2 ∧ H2 D = some (.lst vs) ∧ vs.length ≤ i ∧ vs.length ≤ sizeLine ∧ RDs K J2 H2 acc vs ∧
      (match lcLoop src.good (lcTurn t pt pe ρ) (src.items.drop i) acc h2 with
        | .ok (.lst ds) h' => ∀ J' H' a vs, Ext J H ⟨J'.l, J.z⟩ H' → J'.z = a :: J.z → RH K J' h' H' → H' a = some (.lst vs) → vs.length ≤ sizeLine → RDs K J' H' ds vs → H a = none → Q (.ref a) H'
        | _ => False)
    refine ⟨W, ⟨src.items.length, by simp, Nat.zero_le _, J1.hide D, h1, [], [], by rw [← e1.z], ?_, (Sub.hide nD).trans (Ext.laid nD).sub, rh1.hide nD, upd_same, Nat.zero_le _, Nat.zero_le _, .nil, q⟩, fun i m H2 hW => ?_⟩
    · exact ⟨rfl, e1.pre, fun a o n q => by rw [upd_ne (ne_of_none (e1.keep a o n q) nD)]; exact e1.keep a o n q⟩
    · obtain ⟨rfl, hi', J2, h2, acc, vs, ez, e2, s2, rh2, hD, hv, hsz, rs, q⟩ := hW
      cases hd : src.items[i]? with
      | none =>
        -- the end
        have hlen : i = src.items.length := by have := List.getElem?_eq_none_iff.mp hd; omega
        subst hlen
        rw [List.drop_eq_nil_of_le (Nat.le_refl _)] at q
        unfold lcLoop at q
        split at q
        · rename_i ds h' heq
          split at heq
          · rename_i hgood
            cases heq
            exact .inl ⟨itok.stop s2 rh2 hgood, q J2 H2 D vs e2 ez rh2 hD hsz rs nDH⟩
          · cases heq
        · exact False.elim q
      | some d =>
        have hlt : i < src.items.length := (List.getElem?_eq_some_iff.mp hd).1
        rw [List.drop_eq_getElem_cons hlt] at q
        have hde : src.items[i] = d := by rw [List.getElem?_eq_getElem hlt] at hd; exact Option.some.inj hd
        rw [hde] at q
        unfold lcLoop at q
        cases hgood : src.good h2 with
        | false => rw [hgood] at q; exact False.elim q
        | true =>
          rw [hgood] at q
          simp only [if_true] at q
          obtain ⟨g1, g2⟩ := itok.go s2 rh2 hgood hd
          refine .inr ⟨g1, fun H' => ∃ m', m' < src.items.length - i ∧ W (i + 1) m' H', fun H' z => z, fun xv H3 y3 => ?_⟩
          obtain ⟨e3, rh3, rd3⟩ := g2 xv H3 y3
          have hD3 : H3 D = some (.lst vs) := e3.keep D _ (rh2.apart D (by rw [ez]; exact List.mem_cons_self)) hD
          cases ht2 : t.put d ρ with
          | none => simp only [lcTurn, ht2] at q
          | some ρ' =>
            simp only [lcTurn, ht2] at q
            have re3 : RE K J2 H3 ρ σ := (re.ext e1 |> Sub.re s2).ext e3
            have sub3 : Sub J1 H1 J2 H3 := s2.trans e3.sub
            have ext3 : Ext J H ⟨J2.l, J.z⟩ H3 := ⟨rfl, e2.pre, fun a o n q => e3.keep a o (e2.notin n q) (e2.keep a o n q)⟩
            refine ⟨_, ρ', h2, J2, d, re3.wipe _, rh3, rd3, by rw [put_wipe]; exact ht2, fun σ2 re4 hk hl => ⟨wipe_same hk hl, ?_⟩⟩
            -- the test, the element
            have nx : ∀ (J5 : Jn) (h5 : Hh) (H5 : Hp) (acc5 : List PV.D) (vs5 : List V), Ext J2 H3 J5 H5 → RH K J5 h5 H5 → (∀ u, Ext J H ⟨J5.l, J.z⟩ (upd H5 D u)) ∧ Sub J1 H1 J5 H5 := fun J5 h5 H5 acc5 vs5 e5 rh5 => by
              refine ⟨fun u => ⟨rfl, ?_, fun a o n q => ?_⟩, sub3.trans e5.sub⟩
              · obtain ⟨m1, hm1, f1⟩ := ext3.pre
                obtain ⟨m2, hm2, f2⟩ := e5.pre
                have hm1 : J2.l = J.l ++ m1 := hm1
                refine ⟨m1 ++ m2, by show J5.l = _; rw [hm2, hm1, List.append_assoc], fun a ha => ?_⟩
                rcases List.mem_append.mp ha with z | z
                · exact f1 a z
                · cases hp : H a with
                  | none => rfl
                  | some w =>
                    exfalso
                    by_cases n : a ∈ J.l
                    · obtain ⟨w', h2'⟩ := rh3.inl (a := a) (by rw [hm1]; exact List.mem_append_left _ n)
                      rw [f2 a z] at h2'; cases h2'
                    · have := ext3.keep a w n hp; rw [f2 a z] at this; cases this
              · have hne : a ≠ D := by rintro rfl; rw [nDH] at q; cases q
                rw [upd_ne hne]
                exact e5.keep a o (ext3.notin n q) (ext3.keep a o n q)
            refine ⟨ρ', h2, J2, re4, rh3, ?_⟩
            cases et : pt.t ρ' h2 with
            | bad => rw [et] at q; exact False.elim q
            | err _ _ => rw [et] at q; exact False.elim q
            | ok okb h3 =>
              rw [et, R.bind_ok] at q
              intro J4 H4 bb e4 rh4 hbb
              have hbb : okb = bb := hbb
              subst hbb
              have hD4 : H4 D = some (.lst vs) := e4.keep D _ (rh3.apart D (by rw [ez]; exact List.mem_cons_self)) hD3
              cases okb with
              | false =>
                simp only [Bool.false_eq_true, if_false] at q ⊢
                obtain ⟨n1, n2⟩ := nx J4 h3 H4 acc vs e4 rh4
                refine ⟨_, by omega, rfl, hlt, J4, h3, acc, vs, by rw [e4.z, ez], ?_, n2, rh4, hD4, by omega, hsz, (rs.ext e3).ext e4, q⟩
                have := n1 (.lst vs)
                have hu : upd H4 D (.lst vs) = H4 := by funext a; unfold upd; split <;> simp_all
                rwa [hu] at this
              | true =>
                simp only [if_true] at q ⊢
                refine ⟨ρ', h3, J4, re4.ext e4, rh4, ?_⟩
                cases ee : pe.v ρ' h3 with
                | bad => rw [ee] at q; exact False.elim q
                | err _ _ => rw [ee] at q; exact False.elim q
                | ok y h4 =>
                  rw [ee] at q
                  simp only [R.bind_ok] at q
                  intro J5 H5 yv e5 rh5 ry
                  have hz4 : D ∈ J4.z := by rw [e4.z, ez]; exact List.mem_cons_self
                  have hz5 : D ∈ J5.z := by rw [e5.z]; exact hz4
                  have hD5 : H5 D = some (.lst vs) := e5.keep D _ (rh4.apart D hz4) hD4
                  have e45 : Ext J2 H3 J5 H5 := e4.trans rh3 rh4 e5
                  obtain ⟨n1, n2⟩ := nx J5 h4 H5 acc vs e45 rh5
                  have hlen : vs.length < sizeLine := by have := size_of hsi; omega
                  refine ⟨vs, hD5, hlen, _, by omega, rfl, hlt, J5, h4, acc ++ [y], vs ++ [yv], by rw [e5.z, e4.z, ez], n1 _, n2.trans (Sub.writeZ hz5), rh5.writeZ hz5, upd_same, by simp; omega, by simp; omega, ?_, q⟩
                  exact (((rs.ext e3).ext e45).append (.cons ry .nil)).sub (Sub.writeZ hz5)
theorem se_lcF {elt iter : Expr} {ifs : List Expr} {scope : Scope} {own : List (Str × Nat)} {t : Tg} {f : Env → Hh → R Src} {pt pe : P} {tt : TT} (hc : X.calm = true) (hN : X.N.Nodup) (hi : PI X tg iter (tI X.K f)) (ok : BlkOk X.N X.env.scope scope own) (hown : own.map (·.2) = t.slots)
    (hg : ∀ (s : Shared) (H : Hp) (C : Addr) (cl : List (Str × Addr)) (fp : List Addr), ST (X.blk s H scope (compEnvC scope cl C X.env) fp) tg t t.slots)
    (ht : ∀ (s : Shared) (H : Hp) (C : Addr) (cl : List (Str × Addr)) (fp : List Addr), PTs (X.blk s H scope (compEnvC scope cl C X.env) fp) ifs (tG X.K rB pt.t))
    (he : ∀ (s : Shared) (H : Hp) (C : Addr) (cl : List (Str × Addr)) (fp : List Addr), PE (X.blk s H scope (compEnvC scope cl C X.env) fp) elt (tG X.K (rD X.K) pe.v)) (hs : ∀ x, foldedSetIterable iter X.env x = pure x) :
    PE X (.ListComp elt [⟨tg, iter, ifs, 0⟩] scope pos) (tF X.K fun ρ h => (f ρ h).bind fun s h1 => if sizeOk s.items.length then lcLoop s.good (lcTurn t pt pe ρ) s.items [] h1 else .bad) := by
  refine (pe_lc (g := gD X.K t t.slots) (tt := tG X.K rB pt.t) (te := tG X.K (rD X.K) pe.v) hc hN hi ok (fun s H C cl fp => (hg s H C cl fp).run) ht he hs).imp fun σ H Q q => ?_
  rw [hown]
  exact lc_read q
end
end PV
end

section
set_option maxRecDepth 100000
/-! PvQ: enumerate of a tuple, collected into a tuple. -/
namespace PVQ
open PySem
open PySem.Sem (wp)
theorem new_enumT (t : Addr) (items : Array Value) (k : Nat) (dc : Option Addr) (sl : Array (Option Value)) :
    Meets (Builtin.«enumerate.__new__» ⟨[.type "enumerate", .ref t], []⟩) (fun _ R s => s.heap.get? t = some { cls := .type "tuple", dict := dc, data := .seq items k, slots := sl } ∧
      R (.ok (.ret (.ref (s.heap.push { cls := .type "tuple_iterator", data := .fields #[.ref t, .int 0 0] }).objs.size)))
        { s with heap := (s.heap.push { cls := .type "tuple_iterator", data := .fields #[.ref t, .int 0 0] }).push { cls := .type "enumerate", data := .fields #[.none, .bool false, .ref s.heap.objs.size, rawInt 0, .none, .none] } }) :=
  .of_wp fun prog w A R s hyp => by
    obtain ⟨hp, gn, dr, tk, os⟩ := s
    obtain ⟨hget, hR⟩ := hyp
    have sub := sub_enumerate
    have isT : Heap.IsTuple (Shared.heap ⟨hp, gn, dr, tk, os⟩) t items := ⟨_, hget, rfl, k, rfl⟩
    wp_walk using PySem.AutoSeq1.wpAny_loadPart' hget
    (refine wpAny_stack_any fun st => wpAny_pure ?_)
    split
    · rename_i cl _ _ _ _ _
      cases (cl == Value.type "enumerate")
      · wp_walk using PySem.AutoSeq1.wpAny_loadPart' hget, wpAny_pyIter_tuple isT
        exact ⟨_, rfl, hR⟩
      · wp_walk using PySem.AutoSeq1.wpAny_loadPart' hget, wpAny_pyIter_tuple isT
        exact ⟨_, rfl, hR⟩
    · wp_walk using PySem.AutoSeq1.wpAny_loadPart' hget, wpAny_pyIter_tuple isT
      exact ⟨_, rfl, hR⟩
section
variable {w : World} {prog : Program} {A : Around} {E : Value → Shared → Prop} {s : Shared}
theorem call_enumT {t : Addr} {items : Array Value} {Q : Value → Shared → Prop} (ht : s.heap.IsTuple t items)
    (hq : ∀ h', IsEnum h' (s.heap.objs.size + 1) s.heap.objs.size 0 .none → h'.IsTupleIter s.heap.objs.size t 0 → h'.objs.size = s.heap.objs.size + 2 → (∀ b o, s.heap.get? b = some o → h'.get? b = some o) →
      Q (.ref (s.heap.objs.size + 1)) { s with heap := h' }) : wpAny (model prog w) A (call (.type "enumerate") [.ref t]) Q E s := by
  obtain ⟨⟨cl, dc, dt, sl⟩, hget, hc, k, hd⟩ := ht
  cases (show cl = .type "tuple" from hc)
  cases (show dt = .seq items k from hd)
  refine callType_new F.called_enumerate (by decide) (F.typeCall_enumerate_1 _) (F.newCall_enumerate_1 _) (fun ob => F.args_object_init_2 ob _) F.entry_enumerate_new (new_enumT t items k dc sl) ⟨hget, ?_⟩
  have size1 : (s.heap.push { cls := .type "tuple_iterator", data := .fields #[.ref t, .int 0 0] }).objs.size = s.heap.objs.size + 1 := Heap.size_push ..
  show _ ∧ _
  rw [size1]
  have isE : IsEnum ((s.heap.push { cls := .type "tuple_iterator", data := .fields #[.ref t, .int 0 0] }).push { cls := .type "enumerate", data := .fields #[.none, .bool false, .ref s.heap.objs.size, rawInt 0, .none, .none] }) (s.heap.objs.size + 1) s.heap.objs.size 0 .none := by
    have q := Heap.get?_push_size (s.heap.push { cls := .type "tuple_iterator", data := .fields #[.ref t, .int 0 0] }) (o := { cls := .type "enumerate", data := .fields #[.none, .bool false, .ref s.heap.objs.size, rawInt 0, .none, .none] }) rfl
    rwa [size1] at q
  exact ⟨⟨_, isE, rfl⟩, hq _ isE ⟨_, Heap.get?_push_of_some _ (Heap.get?_push_size _ rfl), rfl, rfl⟩ (by rw [Heap.size_push, size1]) fun b o x => Heap.get?_push_of_some _ (Heap.get?_push_of_some _ x)⟩
/-- next while a tuple that was given out is still there -/
theorem next_heldT {e it t T : Addr} {i : Nat} {items : Array Value} {x old : Value} {fl : Bool} {oT : Obj} {Q : Option Value → Shared → Prop}
    (he : IsEnumHeld s.heap e it i old T fl) (hT : s.heap.get? T = some oT) (nTe : T ≠ e) (nTi : T ≠ it) (hi : s.heap.IsTupleIter it t i) (ht : s.heap.IsTuple t items) (hx : items[i]? = some x) (nei : e ≠ it)
    (hq : ∀ h' tk, IsEnumHeld h' e it ((i : Int) + 1) old T true → h'.IsTupleIter it t (i + 1) → h'.get? s.heap.objs.size = some { cls := .type "tuple", data := .seq #[.int i tk, x] } → h'.objs.size = s.heap.objs.size + 1 →
      (∀ b o, b ≠ e → b ≠ it → s.heap.get? b = some o → h'.get? b = some o) →
      Q (some (.ref s.heap.objs.size)) { s with heap := h', toks := tk + 1 }) : wpAny (model prog w) A (pyNext (.ref e)) Q E s := by
  have isTy : s.TypeIs (.ref e) "enumerate" := ⟨_, he, rfl⟩
  unfold pyNext
  refine wpAny_bind (wpAny_attempt (wpAny_callSpecial?_slot (name := Str.ofString "__next__") isTy F.slot_enumerate_next (wpAny_call_entry F.slot_enumerate_next isTy F.entry_enumerate_next ?_ (F.args_enumerate_next_1 _))))
  obtain ⟨hp, gn, dr, tk, os⟩ := s
  (show wpAny _ _ (field (.ref e) 2 >>= _) _ _ _)
  refine wpAny_bind (wpAny_field he rfl (x := .ref it) rfl (wpAny_bind (wpAny_nextOf_tuple_item hi ht hx fun g1 hi1 sb1 => ?_)))
  have sb1 : Heap.SameBut it hp g1 := sb1
  have he1 : IsEnumHeld g1 e it i old T fl := (sb1.2 e nei).trans he
  show wpAny _ _ (field (.ref e) 3 >>= _) _ _ ⟨g1, gn, dr, tk, os⟩
  refine wpAny_bind (wpAny_field he1 rfl (x := rawInt i) rfl ?_)
  show wpAny _ _ (field (.ref e) 4 >>= _) _ _ ⟨g1, gn, dr, tk, os⟩
  refine wpAny_bind (wpAny_field he1 rfl (x := .none) rfl ?_)
  show wpAny _ _ (mkInt i >>= _) _ _ ⟨g1, gn, dr, tk, os⟩
  (refine wpAny_bind (wpAny_mkInt ?_))
  show wpAny _ _ (setField (.ref e) 3 (rawInt ((i : Int) + 1)) >>= _) _ _ ⟨g1, gn, dr, tk + 1, os⟩
  refine wpAny_bind (wpAny_setField_rec he1 (by simp) fun g2 he2 sb2 => ?_)
  have sb2 : Heap.SameBut e g1 g2 := sb2
  have he2 : IsEnumHeld g2 e it ((i : Int) + 1) old T fl := he2
  show wpAny _ _ (setField (.ref e) 4 .none >>= _) _ _ ⟨g2, gn, dr, tk + 1, os⟩
  refine wpAny_bind (wpAny_setField_rec he2 (by simp) fun g3 he3 sb3 => ?_)
  have sb3 : Heap.SameBut e g2 g3 := sb3
  have he3 : IsEnumHeld g3 e it ((i : Int) + 1) old T fl := he3
  show wpAny _ _ (newTuple [.int i tk, x] >>= _) _ _ ⟨g3, gn, dr, tk + 1, os⟩
  (refine wpAny_bind (wpAny_newTuple ?_))
  have sz3 : g3.objs.size = hp.objs.size := by rw [sb3.1, sb2.1, sb1.1]
  have he4 : IsEnumHeld (g3.push { cls := .type "tuple", data := .seq #[.int i tk, x] }) e it ((i : Int) + 1) old T fl := Heap.get?_push_of_some _ he3
  have keep4 : ∀ b o, b ≠ e → b ≠ it → hp.get? b = some o → (g3.push { cls := .type "tuple", data := .seq #[.int i tk, x] }).get? b = some o := fun b o hbe hbi hb =>
    Heap.get?_push_of_some _ (sb3.extBut b o hbe (sb2.extBut b o hbe (sb1.extBut b o hbi hb)))
  have hi4 : (g3.push { cls := .type "tuple", data := .seq #[.int i tk, x] }).IsTupleIter it t (i + 1) := by
    obtain ⟨o, ho, r⟩ := (hi1.extBut sb2.extBut (Ne.symm nei)).extBut sb3.extBut (Ne.symm nei)
    exact ⟨o, Heap.get?_push_of_some _ ho, r⟩
  have new4 : (g3.push { cls := .type "tuple", data := .seq #[.int i tk, x] }).get? hp.objs.size = some { cls := .type "tuple", data := .seq #[.int i tk, x] } := by rw [← sz3]; exact Heap.get?_push_size _ rfl
  have nne : hp.objs.size ≠ e := Nat.ne_of_gt (Heap.lt_size he)
  show wpAny _ _ (Builtin.SmallTypes.ownedTupleIsFree (.ref e) >>= _) _ _ ⟨_, gn, dr, tk + 1, os⟩
  rw [sz3]
  refine wpAny_bind (wpAny_tupleHeld_enum (s := ⟨_, gn, dr, tk + 1, os⟩) he4 (keep4 T oT nTe nTi hT) fun g5 he5 sb5 => ?_)
  have sb5 : Heap.SameBut e _ g5 := sb5
  (simp only [Bool.false_eq_true, if_false])
  (refine wpAny_pure ⟨_, rfl, ?_⟩)
  refine wpAny_pure (hq g5 tk he5 (hi4.extBut sb5.extBut (Ne.symm nei)) (sb5.extBut _ _ nne new4) ?_ fun b o hbe hbi hb => sb5.extBut b o hbe (keep4 b o hbe hbi hb))
  show g5.objs.size = hp.objs.size + 1
  rw [sb5.1, Heap.size_push, sz3]
theorem end_heldT {e it t T : Addr} {i : Nat} {items : Array Value} {old : Value} {fl : Bool} {Q : Option Value → Shared → Prop} (hh : A.handled = none) (he : IsEnumHeld s.heap e it i old T fl) (hi : s.heap.IsTupleIter it t i) (ht : s.heap.IsTuple t items) (hx : items[i]? = none)
    (hq : ∀ h', Heap.ExtBut it s.heap h' → Q none { s with heap := h' }) : wpAny (model prog w) A (pyNext (.ref e)) Q E s := by
  have isTy : s.TypeIs (.ref e) "enumerate" := ⟨_, he, rfl⟩
  unfold pyNext
  refine wpAny_bind (wpAny_attempt (wpAny_callSpecial?_slot (name := Str.ofString "__next__") isTy F.slot_enumerate_next (wpAny_call_entry F.slot_enumerate_next isTy F.entry_enumerate_next ?_ (F.args_enumerate_next_1 _))))
  (show wpAny _ _ (field (.ref e) 2 >>= _) _ _ _)
  refine wpAny_bind (wpAny_field he rfl (x := .ref it) rfl (wpAny_bind (wpAny_nextOf_tuple_end hh hi ht hx fun h' y ex ey => ?_)))
  obtain ⟨o, ho, hc⟩ := ey
  exact wpAny_bind (wpAny_isInstance (T := "StopIteration") (b := true) ⟨o, ho, hc⟩ isSubtype_stop (wpAny_pure (hq _ ex)))

/-! ### the loop that collects the pairs -/
structure Pairs (items : Array Value) (e it S : Addr) (acc : Array Value) (h : Heap) : Prop where
  at_ : ∀ (j : Nat) (v : Value), acc[j]? = some v → ∃ (T : Addr) (tk : Tok) (x : Value), v = .ref T ∧ items[j]? = some x ∧ h.get? T = some { cls := .type "tuple", data := .seq #[.int (j : Int) tk, x] } ∧ T ≠ e ∧ T ≠ it ∧ T ≠ S ∧ e < T
structure At (items : Array Value) (e it t S : Addr) (i : Nat) (acc : Array Value) (c : Nat) (h : Heap) : Prop where
  en : (i = 0 ∧ ∃ old, IsEnum h e it 0 old) ∨ ∃ (old : Value) (T : Addr) (fl : Bool) (oT : Obj), IsEnumHeld h e it (i : Int) old T fl ∧ h.get? T = some oT ∧ T ≠ e ∧ T ≠ it ∧ T ≠ S
  ti : h.IsTupleIter it t i
  tp : h.IsTuple t items
  ls : h.get? S = some { cls := .type "list", dict := none, data := .seq acc c, slots := #[] }
  sz : acc.size = i
  ps : Pairs items e it S acc h
theorem nextT (hh : A.handled = none) {items : Array Value} {e it t S : Addr} {i c : Nat} {acc : Array Value} (n1 : e ≠ it) (n2 : t ≠ it) (n3 : t ≠ e) (a : At items e it t S i acc c s.heap) (hlt : i < items.size) {Q : Option Value → Shared → Prop}
    (hq : ∀ (g : Heap) (tk : Tok), (∃ (old : Value) (T : Addr) (fl : Bool) (oT : Obj), IsEnumHeld g e it ((i + 1 : Nat) : Int) old T fl ∧ g.get? T = some oT ∧ T ≠ e ∧ T ≠ it ∧ T ≠ S) → g.IsTupleIter it t (i + 1) → g.IsTuple t items →
      g.get? s.heap.objs.size = some { cls := .type "tuple", data := .seq #[.int (i : Int) tk, items[i]] } → (∀ b o, b ≠ e → b ≠ it → s.heap.get? b = some o → g.get? b = some o) → Q (some (.ref s.heap.objs.size)) { s with heap := g, toks := tk + 1 }) :
    (wpAny (model prog w) A (pyNext (.ref e)) Q E s) := by
  obtain ⟨oi, goi, _⟩ := id a.ti
  have z1 : s.heap.objs.size ≠ it := Nat.ne_of_gt (Heap.lt_size goi)
  have z3 : s.heap.objs.size ≠ S := Nat.ne_of_gt (Heap.lt_size a.ls)
  rcases a.en with ⟨i0, old, he⟩ | ⟨old, T, fl, oT, he, hT, m1, m2, m3⟩
  · have z4 : s.heap.objs.size ≠ e := Nat.ne_of_gt (Heap.lt_size he)
    subst i0
    refine wpAny_pyNext_enum_itemD (Draws.tuple (A := A.in1) hh it t n2 items) he ⟨a.ti, a.tp⟩ hlt n1 (fun hm => ?_) fun x g tk hP ho hs2 new _ keep => ?_
    · rcases List.mem_cons.mp hm with z | z
      · exact n1 z
      · exact n3 (List.mem_singleton.mp z).symm
    · have hx : items[0] = x := by rw [Array.getElem?_eq_getElem hlt] at hP; exact Option.some.inj hP
      subst hx
      exact hq g tk ⟨_, _, false, _, ho, new, z4, z1, z3⟩ hs2.1 hs2.2 new keep
  · refine next_heldT he hT m1 m2 a.ti a.tp (Array.getElem?_eq_getElem hlt) n1 fun g tk ho hi2 new _ keep => ?_
    exact hq g tk ⟨_, T, true, oT, ho, keep T _ m1 m2 hT, m1, m2, m3⟩ hi2 (a.tp.at fun o q => keep t o n3 n2 q) new keep
theorem loopT (hh : A.handled = none) {items : Array Value} {e it t S : Addr} (n1 : e ≠ it) (n2 : t ≠ it) (n3 : t ≠ e) (n4 : S ≠ e) (n5 : S ≠ it) (n6 : S ≠ t) (hz : items.size ≤ sizeLine) (res : Value) {R : Result → Shared → Prop} :
    ∀ (k i : Nat) (s : Shared) (acc : Array Value) (c : Nat), items.size - i = k → i ≤ items.size → At items e it t S i acc c s.heap →
    (∀ (h' : Heap) (tk' : Tok) (acc' : Array Value) (c' : Nat), acc'.size = items.size → Pairs items e it S acc' h' → h'.get? S = some { cls := .type "list", dict := none, data := .seq acc' c', slots := #[] } → (∀ b o, b ≠ e → b ≠ it → b ≠ S → s.heap.get? b = some o → h'.get? b = some o) →
      R (.ok (.ret res)) { s with heap := h', toks := tk' }) → codeAny (model prog w) A (.builtin "list.extend.loop" ⟨[.ref S, .ref e, res], []⟩) R s := by
  intro k
  induction k with
  | zero =>
    intro i s acc c hk hi a hR
    have e0 : i = items.size := by omega
    subst e0
    (refine codeAny_builtin F.entry_extend_loop ?_)
    (rw [Around.under_plainId F.plain_extend_loop _])
    show wpAny _ A.in1 (pyNext (.ref e) >>= _) _ _ s
    have stop : ∀ h', Heap.ExtBut it s.heap h' → R (.ok (.ret res)) { s with heap := h' } := fun h' x =>
      hR h' s.toks acc c a.sz ⟨fun j v hv => let ⟨T, tk, y, q1, q2, q3, q4, q5, q6⟩ := a.ps.at_ j v hv; ⟨T, tk, y, q1, q2, x T _ q5 q3, q4, q5, q6⟩⟩ (x S _ n5 a.ls) fun b o _ hb _ q => x b o hb q
    rcases a.en with ⟨i0, old, he⟩ | ⟨old, T, fl, oT, he, hT, m1, m2, m3⟩
    · exact wpAny_bind (wpAny_pyNext_enum_endD (Draws.tuple (A := A.in1.in1) hh it t n2 items) he ⟨a.ti, a.tp⟩ fun h' x => wpAny_pure (stop h' x))
    · exact wpAny_bind (end_heldT hh he a.ti a.tp (by simp) fun h' x => wpAny_pure (stop h' x))
  | succ k ih =>
    intro i s acc c hk hi a hR
    (have hlt : i < items.size := by omega)
    (refine codeAny_builtin F.entry_extend_loop ?_)
    (rw [Around.under_plainId F.plain_extend_loop _])
    show wpAny _ A.in1 (pyNext (.ref e) >>= _) _ _ s
    obtain ⟨oi, goi, _⟩ := a.ti
    obtain ⟨ot, got, _⟩ := a.tp
    have z1 : s.heap.objs.size ≠ it := Nat.ne_of_gt (Heap.lt_size goi)
    have z2 : s.heap.objs.size ≠ t := Nat.ne_of_gt (Heap.lt_size got)
    have z3 : s.heap.objs.size ≠ S := Nat.ne_of_gt (Heap.lt_size a.ls)
    have z5 : e < s.heap.objs.size := by
      rcases a.en with ⟨_, old, he⟩ | ⟨old, T, fl, oT, he, _⟩
      · exact Heap.lt_size he
      · exact Heap.lt_size he
    have z4 : s.heap.objs.size ≠ e := Nat.ne_of_gt z5
    refine wpAny_bind (nextT (A := A.in1) (show A.in1.handled = none from hh) n1 n2 n3 a hlt fun g tk en hi2 ht2 new keep => ?_)
    have ls2 := keep S _ n4 n5 a.ls
    show wpAny _ A.in1 (updateSeq S (·.push (.ref s.heap.objs.size)) >>= _) _ _ _
    refine wpAny_bind ?_
    refine wpAny_updateSeq ls2 rfl (wpAny_pure ⟨plainId_quiet F.plain_extend_loop _, ih (i + 1) _ (acc.push (.ref s.heap.objs.size)) _ (by omega) hlt ⟨.inr ?_, ?_, ?_, Heap.get?_update_self _ ls2 rfl, by rw [Array.size_push, a.sz], ⟨fun j v hv => ?_⟩⟩ fun h' tk' acc' c' q1 q2 q3 q4 => ?_⟩)
      (by rw [a.sz]; omega) (by show (acc.push (.ref s.heap.objs.size)).size ≤ sizeLine + 1; rw [Array.size_push, a.sz]; omega)
    · obtain ⟨old, T, fl, oT, r1, r2, r3, r4, r5⟩ := en
      exact ⟨old, T, fl, oT, (Heap.get?_update_other _ _ n4).trans r1, (Heap.get?_update_other _ _ (Ne.symm r5)).trans r2, r3, r4, r5⟩
    · exact hi2.at fun o q => (Heap.get?_update_other _ _ n5).trans q
    · exact ht2.at fun o q => (Heap.get?_update_other _ _ n6).trans q
    · rw [Array.getElem?_push] at hv
      split at hv
      · rename_i ej
        rw [a.sz] at ej
        cases hv
        subst ej
        exact ⟨_, tk, items[j], rfl, Array.getElem?_eq_getElem hlt, (Heap.get?_update_other _ _ (Ne.symm z3)).trans new, z4, z1, z3, z5⟩
      · obtain ⟨T, tk2, y, r1, r2, r3, r4, r5, r6, r7⟩ := a.ps.at_ j v hv
        exact ⟨T, tk2, y, r1, r2, (Heap.get?_update_other _ _ (Ne.symm r6)).trans (keep T _ r4 r5 r3), r4, r5, r6, r7⟩
    · exact hR h' tk' acc' c' q1 q2 q3 fun b o b1 b2 b3 q => q4 b o b1 b2 b3 ((Heap.get?_update_other _ _ (Ne.symm b3)).trans (keep b o b1 b2 q))

theorem nolen_en : typeLookup (.type "enumerate") "__len__" = pure none := by rw [typeLookup_type, builtinLookup_eq_fast]; kernel_rfl
theorem nohint_en : typeLookup (.type "enumerate") "__length_hint__" = pure none := by rw [typeLookup_type, builtinLookup_eq_fast]; kernel_rfl
theorem collectT (hh : A.handled = none) {items : Array Value} {e it t : Addr} {old : Value} (n1 : e ≠ it) (n2 : t ≠ it) (n3 : t ≠ e) (hz : items.size ≤ sizeLine) (he : IsEnum s.heap e it 0 old) (hi : s.heap.IsTupleIter it t 0) (ht : s.heap.IsTuple t items) {Q : List Value → Shared → Prop}
    (hQ : ∀ (h' : Heap) (tk' : Tok) (acc : Array Value), acc.size = items.size → (∀ (j : Nat) (v : Value), acc[j]? = some v → ∃ (T : Addr) (tk : Tok) (x : Value), v = .ref T ∧ items[j]? = some x ∧ h'.get? T = some { cls := .type "tuple", data := .seq #[.int (j : Int) tk, x] } ∧ e < T) →
      (∀ b o, b ≠ e → b ≠ it → s.heap.get? b = some o → h'.get? b = some o) → s.heap.objs.size < h'.objs.size → Q acc.toList { s with heap := h', toks := tk' }) : wpAny (model prog w) A (collect (.ref e)) Q E s := by
  obtain ⟨oi, goi, _⟩ := id hi
  obtain ⟨ot, got, _⟩ := id ht
  have le := Heap.lt_size he
  have li := Heap.lt_size goi
  have lt := Heap.lt_size got
  unfold collect
  refine wpAny_bind (wpAny_runValue (codeAny_builtin F.entry_proto_collect ?_)); rw [Around.under_plainId F.plain_proto_collect _]
  show wpAny _ A.in1 (newList [] >>= fun l => again (.builtin "list.__iadd__" ⟨[l, .ref e], []⟩)) _ _ s
  refine wpAny_bind (wpAny_newObj_type (wpAny_pure ⟨plainId_quiet F.plain_list_iadd _, codeAny_builtin F.entry_list_iadd ?_⟩)); rw [Around.under_plainId F.plain_list_iadd _]
  let g0 := s.heap.push { cls := .type "list", data := .seq ([] : List Value).toArray }
  have k0 : ∀ b o, s.heap.get? b = some o → g0.get? b = some o := fun b o q => Heap.get?_push_of_some _ q
  have he0 : IsEnum g0 e it 0 old := k0 _ _ he
  have isTy : ({ s with heap := g0 } : Shared).TypeIs (.ref e) "enumerate" := ⟨_, he0, rfl⟩
  show wpAny _ A.in1 (Builtin.List.listExtendWith (.ref s.heap.objs.size) (.ref e) (.ref s.heap.objs.size)) _ _ _
  (unfold Builtin.List.listExtendWith)
  refine wpAny_bind (wpAny_typeOf isTy ?_)
  have q1 : Builtin.List.listSameRef (.ref s.heap.objs.size) (.ref e) = false := by simp [Builtin.List.listSameRef, Nat.ne_of_gt le]
  have q2 : (Value.type "enumerate" == Value.type "list") = false := by decide
  have q3 : (Value.type "enumerate" == Value.type "tuple") = false := by decide
  simp only [q1, q2, q3, Bool.or_false, Bool.false_eq_true, if_false]
  refine wpAny_bind (wpAny_pyIter_enum he0 (wpAny_bind (wpAny_holding ?_)))
  (unfold Builtin.List.listLengthHint)
  refine wpAny_bind (wpAny_specialOf isTy nolen_en ?_)
  show wpAny _ A.in1 (specialOf (Value.ref e) (Str.ofString "__length_hint__") >>= _) _ _ _
  refine wpAny_bind (wpAny_specialOf isTy nohint_en (wpAny_pure ?_))
  show wpAny _ A.in1 (rule "list.extend.makes-room" >>= fun _ => Builtin.List.listTouch (.ref s.heap.objs.size) >>= fun _ => again (.builtin "list.extend.loop" ⟨[.ref s.heap.objs.size, .ref e, .ref s.heap.objs.size], []⟩)) _ _ _
  have hS : g0.get? s.heap.objs.size = some { cls := .type "list", data := .seq ([] : List Value).toArray } := Heap.get?_push_size _ rfl
  (refine wpAny_bind (wpAny_rule (wpAny_bind ?_)))
  (show wpAny _ A.in1 (updateSeq s.heap.objs.size (·.push .none) >>= fun _ => updateSeq s.heap.objs.size (·.pop)) _ _ _)
  have hS2 := Heap.get?_update_self (Obj.mapSeq (·.push Value.none)) hS rfl
  have hS3 := Heap.get?_update_self (Obj.mapSeq (·.pop)) hS2 rfl
  refine wpAny_bind (wpAny_updateSeq hS rfl (wpAny_updateSeq hS2 rfl ?_))
  have oth : ∀ b o, b ≠ s.heap.objs.size → g0.get? b = some o → ((g0.update s.heap.objs.size (Obj.mapSeq (·.push Value.none))).update s.heap.objs.size (Obj.mapSeq (·.pop))).get? b = some o :=
    fun b o hb q => (Heap.get?_update_other _ _ (Ne.symm hb)).trans ((Heap.get?_update_other _ _ (Ne.symm hb)).trans q)
  have ne := Nat.ne_of_lt le
  have ni := Nat.ne_of_lt li
  have nt := Nat.ne_of_lt lt
  refine wpAny_pure ⟨plainId_quiet F.plain_extend_loop _, loopT (A := A) hh n1 n2 n3 (Ne.symm ne) (Ne.symm ni) (Ne.symm nt) hz (.ref s.heap.objs.size) items.size 0 _ _ _ (Nat.sub_zero _) (Nat.zero_le _)
    ⟨.inl ⟨rfl, old, oth e _ ne he0⟩, hi.at fun o q => oth it o ni (k0 _ _ q), ht.at fun o q => oth t o nt (k0 _ _ q), hS3, rfl, ⟨fun j v hv => by simp at hv⟩⟩ fun h' tk' acc c' r1 r2 r3 r4 => ?_⟩
  (show wpAny _ A (load s.heap.objs.size >>= _) _ _ _)
  refine wpAny_bind (wpAny_load r3 (wpAny_pure (hQ h' tk' acc r1 (fun j v hv => ?_) (fun b o b1 b2 q => ?_) (Heap.lt_size r3))))
  · obtain ⟨T, tk, x, p1, p2, p3, _, _, _, p4⟩ := r2.at_ j v hv
    exact ⟨T, tk, x, p1, p2, p3, p4⟩
  · have nb : b ≠ s.heap.objs.size := Nat.ne_of_lt (Heap.lt_size q)
    exact r4 b o b1 b2 nb (oth b o nb (k0 b o q))
/-- tuple(e) -/
theorem call_tupleT (hh : A.handled = none) {items : Array Value} {e it t : Addr} {old : Value} (n1 : e ≠ it) (n2 : t ≠ it) (n3 : t ≠ e) (hz : items.size ≤ sizeLine) (he : IsEnum s.heap e it 0 old) (hi : s.heap.IsTupleIter it t 0) (ht : s.heap.IsTuple t items) {Q : Value → Shared → Prop}
    (hQ : ∀ (h' : Heap) (tk' : Tok) (acc : Array Value), acc.size = items.size → (∀ (j : Nat) (v : Value), acc[j]? = some v → ∃ (T : Addr) (tk : Tok) (x : Value), v = .ref T ∧ items[j]? = some x ∧ h'.get? T = some { cls := .type "tuple", data := .seq #[.int (j : Int) tk, x] } ∧ e < T) →
      (∀ b o, b ≠ e → b ≠ it → s.heap.get? b = some o → h'.get? b = some o) → s.heap.objs.size < h'.objs.size → Q (.ref h'.objs.size) { s with heap := h'.push { cls := .type "tuple", data := .seq acc }, toks := tk' }) : wpAny (model prog w) A (call (.type "tuple") [.ref e]) Q E s := by
  have isTy : s.TypeIs (.ref e) "enumerate" := ⟨_, he, rfl⟩
  have core : codeAny (model prog w) A.in1 (.call (.builtin "tuple.__new__") ⟨[.type "tuple", .ref e], []⟩) (wants (fun obj s1 => s1.TypeIs obj "tuple" ∧ Q obj s1) E) s := by
    refine codeAny_of_tree ?_
    show wpAny _ A.in1.in1 (do checkBuiltinCall "tuple.__new__" ⟨[.type "tuple", .ref e], []⟩; again (.builtin "tuple.__new__" ⟨[.type "tuple", .ref e], []⟩)) _ _ s
    refine wpAny_bind (wpAny_of_eq (F.newCall_tuple_1 _) (wpAny_pure ⟨plainId_quiet F.plain_tuple_new _, codeAny_builtin F.entry_tuple_new ?_⟩)); rw [Around.under_plainId F.plain_tuple_new _]
    have u1 := sub_tuple_self
    have u2 := init_tuple_lookup
    have u3 := madeHere_tuple
    wp_walk using wpAny_typeOf isTy, collectT (s := s) (A := A.in1.in1) (show A.in1.in1.handled = none from hh) n1 n2 n3 hz he hi ht
    intro h' tk' acc r1 r2 r3 r4
    (show wpAny _ _ (Builtin.Tuple.tupleExact acc.toList.toArray >>= fun v => ret v) _ _ _)
    (unfold Builtin.Tuple.tupleExact)
    have ea : acc.toList.toArray = acc := by simp
    rw [ea]
    refine wpAny_bind (wpAny_newObj_type (wpAny_pure ?_) (by show acc.size ≤ sizeLine; rw [r1]; exact hz))
    exact ⟨⟨_, Heap.get?_push_size _ rfl, rfl⟩, hQ h' tk' acc r1 r2 r3 r4⟩
  refine callType_codes (Q₁ := fun obj s1 => s1.TypeIs obj "tuple" ∧ Q obj s1) F.called_tuple (F.typeCall_tuple_1 _) F.entry_object_init core fun obj s1 h1 => ?_
  exact ⟨h1.1, F.args_object_init_2 obj _, object_init_meets F.called_tuple.init.lookup F.called_tuple.made (by decide) prog w A.in1 _ s1 ⟨h1.1, rfl, h1.2⟩⟩
end
end PVQ
end

section
set_option maxRecDepth 100000
namespace PV
open L2 PySem PySem.Spec PyProof.Rows
def pairsV (n : Nat) : List V → List (List V)
  | [] => []
  | v :: vs => [.int (n : Int), v] :: pairsV (n + 1) vs
theorem build_ps {h : Heap} {e : Addr} : ∀ {vs : List V} {its accl : List Value} {n : Nat}, Vals vs its → accl.length = its.length →
    (∀ (j : Nat) (v : Value), accl[j]? = some v → ∃ (T : Addr) (tk : Tok) (x : Value), v = .ref T ∧ its[j]? = some x ∧ h.get? T = some { cls := .type "tuple", data := .seq #[.int ((n + j : Nat) : Int) tk, x] } ∧ e < T) →
    ∃ ps : List (Addr × List V), accl = ps.map (fun p => Value.ref p.1) ∧ ps.map (·.2) = pairsV n vs ∧ (∀ p ∈ ps, e < p.1 ∧ p.2.length ≤ 2 ∧ ∃ us : List Value, Vals p.2 us ∧ IsTup h p.1 us.toArray) ∧ (ps.map (·.1)).Nodup ∧
      ∀ p ∈ ps, ∃ (j : Nat) (tk : Tok) (x : Value), n ≤ j ∧ h.get? p.1 = some { cls := .type "tuple", data := .seq #[.int (j : Int) tk, x] }
  | _, _, [], n, .nil, _, _ => ⟨[], rfl, rfl, fun p hp => (by cases hp), List.nodup_nil, fun p hp => (by cases hp)⟩
  | _, _, _ :: _, _, .nil, hl, _ => by cases hl
  | _, _, [], _, .cons _ _, hl, _ => by cases hl
  | v :: vs, it :: its, a :: accl, n, .cons r t, hl, hh => by
    obtain ⟨T, tk, x, e1, e2, e3, e4⟩ := hh 0 a rfl
    have e2 : it = x := by simpa using e2
    subst e1 e2
    obtain ⟨ps, q1, q2, q3, q4, q5⟩ := build_ps (h := h) (e := e) (n := n + 1) t (Nat.succ.inj hl) fun j w hw => by
      obtain ⟨T', tk', x', p1, p2, p3, p4⟩ := hh (j + 1) w (by simpa using hw)
      exact ⟨T', tk', x', p1, by simpa using p2, by rw [show n + 1 + j = n + (j + 1) by omega]; exact p3, p4⟩
    refine ⟨(T, [.int (n : Int), v]) :: ps, by rw [q1]; rfl, by rw [List.map_cons, q2]; rfl, fun p hp => ?_, ?_, fun p hp => ?_⟩
    · (rcases List.mem_cons.mp hp with rfl | hp)
      · exact ⟨e4, Nat.le_refl _, [.int (n : Int) tk, it], .cons ⟨tk, rfl⟩ (.cons r .nil), ⟨_, e3, rfl, _, rfl⟩⟩
      · exact q3 p hp
    · rw [List.map_cons, List.nodup_cons]
      refine ⟨fun hm => ?_, q4⟩
      obtain ⟨p, hp, e0⟩ := List.mem_map.mp hm
      obtain ⟨j, tk2, x2, hj, g2⟩ := q5 p hp
      have e0 : p.1 = T := e0
      rw [e0, e3] at g2
      have := congrArg (fun o : Option Obj => o.map (·.data)) g2
      simp at this
      omega
    · (rcases List.mem_cons.mp hp with rfl | hp)
      · exact ⟨n, tk, it, Nat.le_refl _, e3⟩
      · obtain ⟨j, tk2, x2, hj, g2⟩ := q5 p hp
        exact ⟨j, tk2, x2, by omega, g2⟩
/-- tuples laid at once -/
def layH (lo : Nat) (ps : List (Addr × List V)) (H : Hp) : Hp := fun b => if b < lo then H b else (ps.lookup b).map HO.tup
theorem lay_lt {lo : Nat} {ps : List (Addr × List V)} {H : Hp} {b : Addr} (h : b < lo) : layH lo ps H b = H b := if_pos h
theorem lookup_of {α : Type} : ∀ {ps : List (Addr × α)} {p : Addr × α}, (ps.map (·.1)).Nodup → p ∈ ps → ps.lookup p.1 = some p.2
  | [], _, _, h => by cases h
  | q :: ps, p, nd, h => by
    (rw [List.map_cons, List.nodup_cons] at nd)
    rcases List.mem_cons.mp h with rfl | h2
    · obtain ⟨a, b⟩ := p
      simp [List.lookup]
    · have hne : (p.1 == q.1) = false := by
        simp only [beq_eq_false_iff_ne]
        intro e
        exact nd.1 (List.mem_map.mpr ⟨p, h2, e⟩)
      obtain ⟨qa, qb⟩ := q
      simp only [List.lookup]
      rw [show (p.1 == qa) = false from hne]
      exact lookup_of nd.2 h2
theorem mem_of_lookupA {α : Type} : ∀ {ps : List (Addr × α)} {b : Addr} {x : α}, ps.lookup b = some x → (b, x) ∈ ps
  | [], _, _, h => by simp [List.lookup] at h
  | (a, y) :: ps, b, x, h => by
    simp only [List.lookup] at h
    split at h
    · rename_i e
      cases h
      rw [beq_iff_eq.mp e]; exact List.mem_cons_self
    · exact List.mem_cons_of_mem _ (mem_of_lookupA h)
section
variable {X : Cx} {pins : List (Addr × Obj)} {σ : L2.St} {H : Hp} {s : Shared} {h' : Heap} {ps : List (Addr × List V)}
theorem inv_lay {tk : Nat} (I : L2.Inv X pins σ H s) (k : ∀ b u, s.heap.get? b = some u → h'.get? b = some u) (hp : ∀ p ∈ ps, s.heap.objs.size ≤ p.1) (hl : ∀ p ∈ ps, p.2.length ≤ sizeLine ∧ ∃ us : List Value, Vals p.2 us ∧ IsTup h' p.1 us.toArray) :
    L2.Inv X pins σ (layH s.heap.objs.size ps H) { s with heap := h', toks := tk } := by
  have lt : ∀ {b : Addr} {u : HO}, H b = some u → b < s.heap.objs.size := fun e => I.hok.lt e
  have same : ∀ {b : Addr} {u : HO}, H b = some u → layH s.heap.objs.size ps H b = some u := fun e => (lay_lt (lt e)).trans e
  refine I.un ⟨fun b u q _ _ _ => k b u q, fun b u q _ _ _ => ⟨u.slots, k b u q⟩, fun b u q n _ => (lay_lt (Heap.lt_size q)).trans n, fun b u q _ => ⟨u, k b u q⟩, fun b xs q => same q, fun b u xs q => same q, fun b xs q => ⟨#[], by rw [same q]; simp⟩⟩ fun b u e => ?_
  by_cases hb : b < s.heap.objs.size
  · rw [lay_lt hb] at e
    exact (I.hok b u e).stay (fun c v _ q => k c v q) (fun c q => same q) fun c xs q => same q
  · have e : (ps.lookup b).map HO.tup = some u := by
      have e2 : (if b < s.heap.objs.size then H b else (ps.lookup b).map HO.tup) = some u := e
      rwa [if_neg hb] at e2
    cases hq : ps.lookup b with
    | none => rw [hq] at e; cases e
    | some xs =>
      rw [hq] at e; cases e
      obtain ⟨z, us, r, t⟩ := hl _ (mem_of_lookupA hq)
      exact ⟨z, us, r, t⟩
end
theorem rds_pairs {K : PySem.W.Frag} {J : Jn} {H : Hp} : ∀ {ds : List D} {vs : List V} {ps : List (Addr × List V)} {n : Nat}, RDs K J H ds vs → ps.map (·.2) = pairsV n vs → (∀ p ∈ ps, p.1 ∉ J.l ∧ p.1 ∉ J.z ∧ H p.1 = some (.tup p.2)) → RDs K J H (enumD n ds) (ps.map fun p => V.ref p.1)
  | _, _, [], _, .nil, _, _ => .nil
  | _, _, _ :: _, _, .nil, e, _ => by cases e
  | _, _, [], _, .cons _ _, e, _ => by cases e
  | d :: ds, v :: vs, p :: ps, n, .cons r t, e, hp => by
    rw [List.map_cons] at e
    have e1 : p.2 = [.int (n : Int), v] := (List.cons.inj e).1
    obtain ⟨q1, q2, q3⟩ := hp p List.mem_cons_self
    rw [e1] at q3
    exact .cons (.tup q1 q2 q3 (by show 2 ≤ sizeLine; decide) (.cons (.int _) (.cons r .nil))) (rds_pairs t (List.cons.inj e).2 fun q hq => hp q (List.mem_cons_of_mem _ hq))
theorem vals_refs : ∀ (ps : List (Addr × List V)), Vals (ps.map fun p => V.ref p.1) (ps.map fun p => Value.ref p.1)
  | [] => .nil
  | p :: ps => .cons rfl (vals_refs ps)
section
variable {X : Cx} {pins : List (Addr × Obj)} {σ : L2.St} {H : Hp} {s : Shared} {J : Jn} {h : Hh}
/-- tuple(enumerate(a tuple)) -/
theorem tenum_run {a : Addr} {ds : List D} {Q : VK} (hc : X.calm = true) (I : L2.Inv X pins σ H s) (rh : RH X.K J h H) (rx : RD X.K J H (.tup ds) (.ref a)) (q : ∀ J' H' v, Ext J H J' H' → RH X.K J' h H' → RD X.K J' H' (.tup (enumD 0 ds)) v → Q v H') :
    wpAny (model X.prog X.w) X.A (call (.type "enumerate") [.ref a]) (fun ev s2 => wpAny (model X.prog X.w) X.A (call (.type "tuple") [ev]) (EP X pins σ Q) X.xe s2) X.xe s := by
  obtain ⟨a', vs, ea, hq, z, rs⟩ := rx.tup_inv
  cases ea
  obtain ⟨its, rv, tp, hz⟩ := I.tuple hq
  (have hh : X.A.handled = none := I.ok.hd hc)
  have la : a < s.heap.objs.size := by obtain ⟨o, g, _⟩ := tp; exact Heap.lt_size g
  refine PVQ.call_enumT tp fun g he hi hsz kp => ?_
  have tp2 : g.IsTuple a its.toArray := (show s.heap.IsTuple a its.toArray from tp).at fun o e => kp a o e
  refine PVQ.call_tupleT (s := { s with heap := g }) hh (Nat.succ_ne_self _) (Nat.ne_of_lt la) (Nat.ne_of_lt (Nat.lt_succ_of_lt la)) (by rw [List.size_toArray, ← rv.length]; exact hz) he hi tp2 fun g' tk acc r1 r2 r3 r4 => ?_
  have keep : ∀ b u, s.heap.get? b = some u → g'.get? b = some u := fun b u e => by
    have lb := Heap.lt_size e
    exact r3 b u (Nat.ne_of_lt (Nat.lt_succ_of_lt lb)) (Nat.ne_of_lt lb) (kp b u e)
  obtain ⟨ps, p1, p2, p3, p4, _⟩ := build_ps (h := g') (e := s.heap.objs.size + 1) (n := 0) (accl := acc.toList) rv (by rw [Array.length_toList, r1, List.size_toArray]) fun j v hv => by
    obtain ⟨T, t2, x, e1, e2, e3, e4⟩ := r2 j v (by simpa using hv)
    exact ⟨T, t2, x, e1, by simpa using e2, by rw [Nat.zero_add]; exact e3, e4⟩
  have lps : ps.length = vs.length := by
    have := congrArg List.length p2
    rw [List.length_map] at this
    rw [this]
    have gen : ∀ (vs : List V) (n : Nat), (pairsV n vs).length = vs.length := by
      intro vs
      induction vs with
      | nil => intro n; rfl
      | cons v vs ih => intro n; show (pairsV (n + 1) vs).length + 1 = _; rw [ih]; rfl
    exact gen vs 0
  -- the last tuple
  have g1 : ∀ p ∈ ps, p.1 < g'.objs.size := fun p hp => by
    obtain ⟨_, _, us, _, o, go, _⟩ := p3 p hp
    exact Heap.lt_size go
  have big : s.heap.objs.size ≤ g'.objs.size := by
    have r4 : g.objs.size < g'.objs.size := r4
    rw [hsz] at r4; exact Nat.le_of_lt (Nat.lt_trans (Nat.lt_succ_of_lt (Nat.lt_succ_self _)) r4)
  let all : List (Addr × List V) := (g'.objs.size, ps.map fun p => V.ref p.1) :: ps
  have nd : (all.map (·.1)).Nodup := by
    show (g'.objs.size :: ps.map (·.1)).Nodup
    refine List.nodup_cons.mpr ⟨fun hm => ?_, p4⟩
    (obtain ⟨p, hp, e⟩ := List.mem_map.mp hm)
    have e : p.1 = g'.objs.size := e
    exact Nat.lt_irrefl _ (e ▸ g1 p hp)
  have acc2 : acc = (ps.map fun p => Value.ref p.1).toArray := by rw [← p1]
  have I2 := inv_lay (ps := all) (h' := g'.push { cls := .type "tuple", data := .seq acc }) (tk := tk) I (fun b u e => Heap.get?_push_of_some _ (keep b u e)) (fun p hp => by
    (rcases List.mem_cons.mp hp with rfl | hp)
    · exact big
    · exact Nat.le_of_lt (Nat.lt_trans (Nat.lt_succ_self _) (p3 p hp).1)) (fun p hp => by
    (rcases List.mem_cons.mp hp with rfl | hp)
    · refine ⟨by rw [List.length_map, lps]; exact z, _, vals_refs ps, ⟨_, Heap.get?_push_size _ rfl, rfl, 0, by rw [acc2]⟩⟩
    · obtain ⟨_, l2, us, ru, o, go, gc⟩ := p3 p hp
      exact ⟨Nat.le_trans l2 (by show 2 ≤ sizeLine; decide), us, ru, ⟨o, Heap.get?_push_of_some _ go, gc⟩⟩)
  have at_ : ∀ p ∈ all, s.heap.objs.size ≤ p.1 → layH s.heap.objs.size all H p.1 = some (.tup p.2) := fun p hp hb => by
    show (if p.1 < s.heap.objs.size then H p.1 else (all.lookup p.1).map HO.tup) = _
    rw [if_neg (Nat.not_lt.mpr hb), lookup_of nd hp]; rfl
  have ext : Ext J H J (layH s.heap.objs.size all H) := ⟨rfl, ⟨[], by simp, by simp⟩, fun b o _ e => (lay_lt (I.hok.lt e)).trans e⟩
  have nl : ∀ b, s.heap.objs.size ≤ b → b ∉ J.l ∧ b ∉ J.z := fun b hb => by
    have hn : H b = none := I.hok.fresh hb
    exact ⟨rh.notin hn, rh.notz hn⟩
  have rh2 : RH X.K J h (layH s.heap.objs.size all H) := ⟨rh.nd, rh.len, fun i o e => by
    obtain ⟨b, u, h1, h2, h3⟩ := rh.obj i o e
    exact ⟨b, u, h1, (lay_lt (I.hok.lt h2)).trans h2, h3.ext ext⟩, rh.apart, fun b hb => by
    cases hbu : H b with
    | none => exact absurd hbu (rh.zed b hb)
    | some u => rw [(lay_lt (I.hok.lt hbu)).trans hbu]; simp⟩
  refine ⟨.ref g'.objs.size, _, I2, rfl, q J _ _ ext rh2 (.tup (nl _ big).1 (nl _ big).2 (at_ _ List.mem_cons_self big) (by rw [List.length_map, lps]; exact z) (rds_pairs (rs.ext ext) p2 fun p hp => ?_))⟩
  have hb : s.heap.objs.size ≤ p.1 := Nat.le_of_lt (Nat.lt_trans (Nat.lt_succ_self _) (p3 p hp).1)
  exact ⟨(nl _ hb).1, (nl _ hb).2, at_ p (List.mem_cons_of_mem _ hp) hb⟩
end
end PV
end

section
set_option maxRecDepth 100000
/-! PvS: t.index(n), t a tuple or a list of whole numbers, n in it; a written tuple as a frozen object whose dict is known. -/
namespace PV
open PySem PySem.Spec PyProof.Rows L2 PV
theorem intsAre_of : ∀ {ns : List Int} {us : List Value}, Vals (ns.map V.int) us → IntsAre us ns
  | [], _, .nil => .nil
  | n :: ns, _, .cons r t => by
    obtain ⟨k, rfl⟩ := r
    exact .cons n k (intsAre_of t)
section
variable {X : Cx}
def rIdx (S : PySem.W.Frag → Hp → Addr → List V → Prop) (K : PySem.W.Frag) : V → List V → Hp → VK → Prop :=
  fun x xs H Q => ∃ p, ∃ ns : List Int, ∃ z, x = .ref p ∧ xs = [.int z] ∧ S K H p (ns.map V.int) ∧ z ∈ ns ∧ Q (.int (ns.idxOf z : Nat)) H
theorem mt_tupIdx : MtR X "tuple.index" (rIdx SqT X.K) := by
  intro pins s σ H x xs v us Q I rx rs g
  obtain ⟨p, ns, z, rfl, rfl, hq, hz, q⟩ := g
  cases rx
  (obtain ⟨u, rfl, t, rfl⟩ := vals1 rs)
  obtain ⟨its, r, pl, hl⟩ := I.tuple hq
  exact SeqAt.tuple_index_ints pl (intsAre_of r) hz ⟨.int (ns.idxOf z : Nat), H, I.tok _, ⟨_, rfl⟩, q⟩
theorem mt_lstIdx : MtR X "list.index" (rIdx SqL X.K) := by
  intro pins s σ H x xs v us Q I rx rs g
  obtain ⟨p, ns, z, rfl, rfl, hq, hz, q⟩ := g
  cases rx
  (obtain ⟨u, rfl, t, rfl⟩ := vals1 rs)
  obtain ⟨its, r, ⟨o, n, p1, p2, p3, p4⟩, hl⟩ := I.list hq
  exact SeqAt.list_index_ints ⟨o, p1, p2, n, p4⟩ (intsAre_of r) (by rw [List.length_map] at hl; exact hl) hz ⟨.int (ns.idxOf z : Nat), H, I.tok _, ⟨_, rfl⟩, q⟩
/-- a written tuple, its cell a frozen object without a dict -/
def tFtup (t : TA) : TE := fun σ H Q => t σ H fun xs H1 => xs.length ≤ sizeLine ∧ ∀ p o, H1 p = none → o.cls = .type "tuple" → o.dict = none → Q (.ref p) (upd H1 p (.frz o (.tup xs)))
theorem pe_ftup {es : List Expr} {t : TA} {pos : Pos} {x1 : Nat} (h : PA X es t) : PE X (.Tuple es x1 pos) (tFtup t) := by
  (refine ⟨fun pins s σ H Q I hq => ?_⟩)
  (refine wpAny_Tuple_spliced (thn (h.run pos pins s σ H _ I hq) fun us s1 ⟨xs, H1, I1, r, z, q⟩ => ⟨by rw [← r.length]; exact z, ?_⟩))
  (have hf : H1 s1.heap.objs.size = none := I1.hok.fresh (Nat.le_refl _))
  have e0 := Heap.get?_push_size s1.heap (o := { cls := .type "tuple", data := .seq us.toArray }) rfl
  refine ⟨.ref s1.heap.objs.size, _, I1.laid (t' := s1.toks) (fun b u e => Heap.get?_push_of_some _ e) (Nat.le_refl _) ?_, rfl, q _ { cls := .type "tuple", data := .seq us.toArray } hf rfl rfl⟩
  exact ⟨e0, z, us, r, ⟨_, e0, rfl, _, rfl⟩⟩
/-- a method of a tuple whose dict is known to be none -/
def tFM (r : V → List V → Hp → VK → Prop) (to : TE) (t : TA) : TE := fun σ H Q => to σ H fun x H1 => (∃ p o xs, x = .ref p ∧ H1 p = some (.frz o (.tup xs)) ∧ o.cls = .type "tuple" ∧ o.dict = none) ∧ t σ H1 fun xs H2 => r x xs H2 Q
theorem pe_fm {o e : Expr} {es : List Expr} {to : TE} {t : TA} {name : Str} {apos cpos : Pos} {id : String} {r : V → List V → Hp → VK → Prop} (slot : Slot "tuple" name id) (hty : typeOf (.builtin id) = pure (.type "method_descriptor")) (hm : MtR X id r) (ho : PE X o to) (ha : PA X (e :: es) t)
    (hbase : attributeBase o name X.env (eval o X.env) = eval o X.env)
    (hfew : ((backTo cpos (starEach (e :: es) X.env)).all (fun x => !x.1) && (backToKw cpos (keywordEach [] X.env)).all (fun x => x.1.isSome) && decide ((e :: es).length + ([] : List Keyword).length + (if ([] : List Keyword).isEmpty then 0 else 1) < 30)) = true)
    (hline : (apos.endLine == cpos.line) = true) (hs : starEach (e :: es) X.env = (false, eval e X.env) :: starEach es X.env) (hplain : (backTo cpos (starEach es X.env)).any (·.1) = false) :
    PE X (.Call (.Attribute o name apos) (e :: es) [] cpos) (tFM r to t) := by
  (refine ⟨fun pins s σ H Q I h => ?_⟩)
  refine wpAny_Call_method_late hbase hfew hline rfl (thn (ho.run pins s σ H _ I h) fun v s1 ⟨x, H1, I1, r1, ⟨p, ob, ys, ex, hp, hc, hd⟩, q1⟩ => ?_)
  subst ex
  cases r1
  obtain ⟨e0, _⟩ := (show ObjOk X.prog X.w H1 s1.heap p (.frz ob (.tup ys)) from I1.hok p _ hp)
  refine ⟨"tuple", id, PySem.F.plainAttrs_tuple, slot, hty, ⟨ob, e0, hc⟩, fun a ea => by cases ea; exact ⟨ob, e0, hd⟩, ?_⟩
  (have hA := ha.run cpos pins s1 σ H1 _ I1 q1)
  rw [hs] at hA ⊢
  (refine Calls.callWith_builtin (by show (false || (backTo cpos (starEach es X.env)).any (·.1)) = false; rw [hplain] <;> rfl) (Calls.evalArgs_plain ?_))
  refine thn hA fun us s2 ⟨xs, H2, I2, rs, q2⟩ => ?_
  exact hm pins s2 σ H2 (.ref p) xs (.ref p) us Q I2 rfl rs q2
end
end PV
end

section
set_option maxRecDepth 100000
namespace PV
open L2 PySem PySem.Spec PyProof.Rows
section
variable {X : Cx} {e x a b tg : Expr} {p pa pb pc : P} {pos np cpos apos : Pos} {K : PySem.W.Frag} {J : Jn} {H : Hp} {h : Hh} {es : List Expr} {pl : PL} {y : Str}

theorem lcLoop_lst (good : Hh → Bool) (turn : D → Hh → R (Option D)) : ∀ (xs acc : List D) (h : Hh) (d : D) (h' : Hh), lcLoop good turn xs acc h = .ok d h' → ∃ ds, d = .lst ds
  | [], acc, h, d, h', e => by
    unfold lcLoop at e
    split at e
    · cases e; exact ⟨_, rfl⟩
    · cases e
  | x :: xs, acc, h, d, h', e => by
    unfold lcLoop at e
    split at e
    · split at e
      · exact lcLoop_lst good turn xs _ _ d h' e
      · exact lcLoop_lst good turn xs _ _ d h' e
      · cases e
    · cases e
theorem lc_lst {f : Env → Hh → R Src} {t : Tg} {pt pe : P} (ρ : Env) (h : Hh) (d : D) (h' : Hh)
    (e : ((f ρ h).bind fun s h1 => if sizeOk s.items.length then lcLoop s.good (lcTurn t pt pe ρ) s.items [] h1 else .bad) = .ok d h') : ∃ ds, d = .lst ds := by
  cases ev : f ρ h with
  | ok s h1 =>
    rw [ev, R.bind_ok] at e
    split at e
    · exact lcLoop_lst _ _ _ _ _ _ _ e
    · cases e
  | bad => rw [ev] at e; cases e
  | err _ _ => rw [ev] at e; cases e

/-! ### an empty dict -/
theorem se_dic0 : SE X (.Dict [] [] pos) (.plain fun _ h => .ok (.ref h.length) (h ++ [.dct []])) := by
  refine SE.plain (pe_dnewK.imp fun σ H Q ⟨ρ, h, J, re, rh, q⟩ => ?_) (fun _ => rfl)
  intro p np
  have rh2 : RH X.K (J.own p) (h ++ [.dct []]) (upd H p (.dK [])) := (rh.hide np).own (rh.notz np) upd_same (.dct (Nat.zero_le _) .nil)
  refine q _ _ _ (Ext.own np (Ext.laid np)) rh2 (.ref ?_)
  show (J.l ++ [p])[h.length]? = some p
  rw [← rh.len, List.getElem?_append_right (Nat.le_refl _)]; simp

/-! ### calls -/
def plainXs : List Expr → Bool
  | [] => true
  | e :: es => plainX e && plainXs es
theorem plainXs_any (pos : Pos) (env : PySem.Env) : ∀ {es : List Expr}, plainXs es = true → (backTo pos (starEach es env)).any (·.1) = false
  | [], _ => rfl
  | e :: es, h => by
    simp only [plainXs, Bool.and_eq_true] at h
    rw [plain_star h.1]
    have := plainXs_any pos env h.2
    unfold backTo at this ⊢
    rw [List.map_cons, List.any_cons, this]; rfl
theorem glb_dbg {c : Cs} (h : c.glb y = true) : (y == ("__debug__" : Str)) = false := by
  simp only [Cs.glb, Bool.and_eq_true, Bool.not_eq_true'] at h; exact h.2
section
variable {c : Cs} {F : Fns} {G : List D} {fn : Fn} {f : Nat}
/-- the callee runs -/
theorem run_g {k : Nat} {fa : Addr} {fd : FuncData} {ps : List Str} {sp : Sp} {pins : List (Addr × Obj)} {σ : L2.St} {H : Hp} {s : Shared} {Q : VK} {args : Args} {us : List Value} {vs : List V} (hF : FnG X.prog X.w X.K X.mg X.base k fa fd ps sp) (hr : Room k X.A) (hgd : X.A.guards = some [])
    (I : L2.Inv X pins σ H s) (hb : BindsTo s fd args (ps.zip us)) (r : Vals vs us) (h : sp vs H Q E0) : wpAny (model X.prog X.w) X.A (PySem.call (.ref fa) args.pos args.kw) (EP X pins σ Q) X.xe s := by
  refine wpAny_call (codeAny_mono (hF.go hr hgd I.env0 hb r h) fun o s' hq => ?_)
  cases o with
  | error e => exact (False.elim hq)
  | ok fl =>
    cases fl with
    | ret u => exact I.after hq
    | next => exact False.elim hq
    | brk => exact False.elim hq
    | cont => exact False.elim hq
theorem se_call (o : Ok c F G X) (hf : c.T[f]? = some fn) (hn : fn.name = y) (hg : c.glb y = true) (hp : plainXs es = true) (h0 : es = [] → pl.l = fun _ h => .ok [] h) (hlen : ∀ ρ h ds h', pl.l ρ h = .ok ds h' → ds.length = fn.P.length) (hl : SEs X es pl) :
    SE X (.Call (.Name y np) es [] pos) (.plain fun ρ h => (pl.l ρ h).bind fun xs h1 => F f xs h1) := by
  obtain ⟨k, hr, hgd, hc⟩ := o.call.ok
  obtain ⟨fa, fd, hm, hk, hF, hb, _⟩ := hc f fn hf
  rw [hn] at hm
  obtain ⟨g1, g2⟩ := glb_ok o hg
  refine SE.plain ⟨fun pins s σ H Q I ⟨ρ, h, J, re, rh, q⟩ => ?_⟩ (fun _ => rfl)
  refine wpAny_Call_Name_kw (ld_glob I g1 hm ?_ g2)
  have run : ∀ {us : List Value} {vs : List V} {J1 : Jn} {h1 : Hh} {H1 : Hp} {s1 : Shared} {ds : List D}, L2.Inv X pins σ H1 s1 → Vals vs us → RH X.K J1 h1 H1 → RDs X.K J1 H1 ds vs → ds.length = fn.P.length → Post X.K J1 H1 (rD X.K) (F f ds h1) Q →
      wpAny (model X.prog X.w) X.A (PySem.call (.ref fa) us) (EP X pins σ Q) X.xe s1 := by
    intro us vs J1 h1 H1 s1 ds I1 r rh1 rs hl1 q1
    have hul : us.length = fn.P.length := by rw [← r.length, ← rs.length]; exact hl1
    have hb1 := hb s1 us I1.kIn (by rw [List.append_nil]; exact hul)
    rw [List.append_nil] at hb1
    exact run_g (args := ⟨us, []⟩) hF hr hgd I1 hb1 r ⟨by rw [← rs.length]; exact hl1, J1, h1, ds, rs, rh1, q1⟩
  cases es with
  | nil =>
    rw [h0 rfl] at q
    exact PySem.W.callWith_K0 I.kIn hk (run (us := []) (ds := []) I .nil rh .nil (hlen [] [] [] [] (by rw [h0 rfl])) q)
  | cons e es =>
    simp only [plainXs, Bool.and_eq_true] at hp
    refine PySem.W.callWith_K (h₀ := X.base) I.ok.mod.kin hk (thn (hl.l.run pos pins s σ H _ I (?_ : tG X.K (rDs X.K) pl.l σ H (fun vs H1 => ∃ J1 h1 ds, RH X.K J1 h1 H1 ∧ RDs X.K J1 H1 ds vs ∧ ds.length = fn.P.length ∧ Post X.K J1 H1 (rD X.K) (F f ds h1) Q))) fun us s1 ⟨vs, H1, I1, r, J1, h1, ds, rh1, rs, hl1, q1⟩ => ⟨I1.kIn, run I1 r rh1 rs hl1 q1⟩) (plain_star hp.1 _ _) (plainXs_any _ _ hp.2)
    refine ⟨ρ, h, J, re, rh, ?_⟩
    dsimp only at q
    cases ev : pl.l ρ h with
    | bad => rw [ev] at q; exact q
    | err _ _ => rw [ev] at q; exact q
    | ok ds h1 =>
      rw [ev, R.bind_ok] at q
      exact fun J1 H1 vs e1 rh1 rs => ⟨J1, h1, ds, rh1, rs, hlen _ _ _ _ ev, Post.ext rh rh1 e1 q⟩

/-! ### calls with keywords -/
def kwNms (kws : List Keyword) : List Str := kws.filterMap (·.arg)
def kwAll (kws : List Keyword) : Bool := kws.all (·.arg.isSome)
theorem kws_facts (pos : Pos) (env : PySem.Env) : ∀ {kws : List Keyword}, kwAll kws = true → (backToKw pos (keywordEach kws env)).all (·.1.isSome) = true ∧ (backToKw pos (keywordEach kws env)).filterMap (·.1) = kwNms kws ∧ (backToKw pos (keywordEach kws env)).any (·.1.isNone) = false
  | [], _ => ⟨rfl, rfl, rfl⟩
  | ⟨nm, e, kp⟩ :: kws, h => by
    simp only [kwAll, List.all_cons, Bool.and_eq_true] at h
    obtain ⟨i1, i2, i3⟩ := kws_facts pos env (kws := kws) h.2
    cases nm with
    | none => cases h.1
    | some nm =>
      refine ⟨?_, ?_, ?_⟩
      · show (true && _) = true
        exact i1
      · exact congrArg (nm :: ·) i2
      · show (false || _) = false
        exact i3
theorem vals_getD : ∀ {vs : List V} {us : List Value} (k : Nat), Vals vs us → RelV (vs.getD k .non) (us.getD k .none)
  | _, _, _, .nil => by simp; rfl
  | _, _, 0, .cons r _ => r
  | _, _, k + 1, .cons _ t => by simpa using vals_getD k t
theorem vals_pm {vs zs : List V} {us ws : List Value} (r : Vals vs us) (z : Vals zs ws) : ∀ pm : List Nat, Vals (pmD .non pm vs zs) (pmD .none pm us ws)
  | [] => .nil
  | k :: pm => .cons (vals_getD k (r.append z)) (vals_pm r z pm)
theorem rds_getD {K : PySem.W.Frag} {J : Jn} {H : Hp} : ∀ {ds : List D} {vs : List V} (k : Nat), RDs K J H ds vs → RD K J H (ds.getD k .non) (vs.getD k .non)
  | _, _, _, .nil => by simp; exact .non
  | _, _, 0, .cons r _ => r
  | _, _, k + 1, .cons _ t => by simpa using rds_getD k t
theorem rds_pm {K : PySem.W.Frag} {J : Jn} {H : Hp} {ds es : List D} {vs ws : List V} (r : RDs K J H ds vs) (z : RDs K J H es ws) : ∀ pm : List Nat, RDs K J H (pmD .non pm ds es) (pmD .non pm vs ws)
  | [] => .nil
  | k :: pm => .cons (rds_getD k (r.append z)) (rds_pm r z pm)
theorem pm_len {α : Type} {d : α} {pm : List Nat} {xs ys : List α} : (pmD d pm xs ys).length = pm.length := by simp [pmD]
theorem se_callK {kws : List Keyword} {pk : PL} {n : Nat} {pm : List Nat} (o : Ok c F G X) (hf : c.T[f]? = some fn) (hn : fn.name = y) (hg : c.glb y = true) (hp : plainXs es = true) (hq : (n, kwNms kws, pm) ∈ fn.kw) (h0 : es = [] → pl.l = fun _ h => .ok [] h)
    (hlen : ∀ ρ h ds h', pl.l ρ h = .ok ds h' → ds.length = n) (hkl : ∀ ρ h ds h', pk.l ρ h = .ok ds h' → ds.length = (kwNms kws).length) (hka : kwAll kws = true) (hl : SEs X es pl) (hk : SEs X (kws.map (·.value)) pk) :
    SE X (.Call (.Name y np) es kws pos) (.plain fun ρ h => (pl.l ρ h).bind fun xs h1 => (pk.l ρ h1).bind fun ys h2 => F f (pmD .non pm xs ys) h2) := by
  obtain ⟨k, hr, hgd, hc⟩ := o.call.ok
  obtain ⟨fa, fd, hm, hkp, hF, hb, hkw⟩ := hc f fn hf
  have hkw := hkw _ hq
  rw [hn] at hm
  obtain ⟨g1, g2⟩ := glb_ok o hg
  obtain ⟨k1, k2, k3⟩ := kws_facts pos X.env hka
  refine SE.plain ⟨fun pins s σ H Q I ⟨ρ, h, J, re, rh, q⟩ => ?_⟩ (fun _ => rfl)
  refine wpAny_Call_Name_kw (ld_glob I g1 hm ?_ g2)
  -- the keywords and the call
  have tail : ∀ {us : List Value} {vs : List V} {J1 : Jn} {h1 : Hh} {H1 : Hp} {s1 : Shared} {ds : List D}, Inv X pins σ H1 s1 → Vals vs us → RE X.K J1 H1 ρ σ → RH X.K J1 h1 H1 → RDs X.K J1 H1 ds vs → vs.length = n →
      Post X.K J1 H1 (rD X.K) ((pk.l ρ h1).bind fun ys h2 => F f (pmD .non pm ds ys) h2) Q →
      wpAny (model X.prog X.w) X.A (evalAll ((backToKw pos (keywordEach kws X.env)).map (·.2))) (fun ks s₂ => X.K.In s₂.heap ∧ wpAny (model X.prog X.w) X.A (PySem.call (.ref fa) us (((backToKw pos (keywordEach kws X.env)).filterMap (·.1)).zip ks)) (EP X pins σ Q) X.xe s₂) X.xe s1 := by
    intro us vs J1 h1 H1 s1 ds I1 r re1 rh1 rs hl1 q1
    have hd : tG X.K (rDs X.K) pk.l σ H1 (fun zs H2 => zs.length = (kwNms kws).length ∧ ∃ J2 h2 es, RDs X.K J2 H2 (pmD .non pm ds es) (pmD .non pm vs zs) ∧ RH X.K J2 h2 H2 ∧ Post X.K J2 H2 (rD X.K) (F f (pmD .non pm ds es) h2) Q) := by
      refine ⟨ρ, h1, J1, re1, rh1, ?_⟩
      cases ev : pk.l ρ h1 with
      | bad => rw [ev] at q1; exact q1
      | err _ _ => rw [ev] at q1; exact q1
      | ok es h2 =>
        rw [ev, R.bind_ok] at q1
        intro J2 H2 zs e2 rh2 rz
        exact ⟨by rw [← rz.length]; exact hkl _ _ _ _ ev, J2, h2, es, rds_pm (rs.ext e2) rz pm, rh2, Post.ext rh1 rh2 e2 q1⟩
    refine thn ((hk.kw kws rfl).run pos pins s1 σ H1 _ I1 hd) fun ws s2 ⟨zs, H2, I2, rz, hzl, J2, h2, es, rr, rh2, q2⟩ => ⟨I2.kIn, ?_⟩
    rw [k2]
    refine run_g (args := ⟨us, (kwNms kws).zip ws⟩) hF hr hgd I2 (hkw.to s2 us ws I2.kIn ?_ ?_) (vals_pm r rz pm) ⟨?_, J2, h2, _, rr, rh2, q2⟩
    · rw [← r.length]; exact hl1
    · rw [← rz.length]; exact hzl
    · rw [pm_len, hkw.len]
  cases es with
  | nil =>
    rw [h0 rfl] at q
    refine PySem.W.callWith_KW0 (h₀ := X.base) I.ok.mod.kin hkp k1 (tail I .nil re rh .nil ?_ q) (by rw [k3]; rfl)
    have := hlen [] [] [] [] (by rw [h0 rfl])
    exact this
  | cons e es =>
    have hp' := hp
    simp only [plainXs, Bool.and_eq_true] at hp'
    refine PySem.W.callWith_KW (h₀ := X.base) I.ok.mod.kin hkp k1 (thn (hl.l.run pos pins s σ H _ I (?_ : tG X.K (rDs X.K) pl.l σ H (fun vs H1 => vs.length = n ∧ ∃ J1 h1 ds, RE X.K J1 H1 ρ σ ∧ RH X.K J1 h1 H1 ∧ RDs X.K J1 H1 ds vs ∧ Post X.K J1 H1 (rD X.K) ((pk.l ρ h1).bind fun ys h2 => F f (pmD .non pm ds ys) h2) Q))) fun us s1 ⟨vs, H1, I1, r, hvl, J1, h1, ds, re1, rh1, rs, q1⟩ => tail I1 r re1 rh1 rs hvl q1) (by rw [plainXs_any pos X.env hp, k3]; rfl) (plain_star hp'.1 _ _)
    refine ⟨ρ, h, J, re, rh, ?_⟩
    dsimp only at q
    cases ev : pl.l ρ h with
    | bad => rw [ev] at q; exact q
    | err _ _ => rw [ev] at q; exact q
    | ok ds h1 =>
      rw [ev, R.bind_ok] at q
      intro J1 H1 vs e1 rh1 rs
      exact ⟨by rw [← rs.length]; exact hlen _ _ _ _ ev, J1, h1, ds, re.ext e1, rh1, rs, Post.ext rh rh1 e1 q⟩

/-! ### built-in functions -/
def bfNm : Bf → Str
  | .len => "len" | .int => "int" | .abs => "abs" | .tuple => "tuple" | .list => "list" | .max2 => "max" | .min2 => "min" | .sum => "sum" | .all => "all" | .any => "any" | .sorted => "sorted" | .repr => "repr"
theorem bf_do {σ : L2.St} {H : Hp} {Q : VK} {f : Hh → List D → Option D} (t : tG X.K (rD X.K) (fun ρ h => (pl.l ρ h).bind fun xs h1 => R.opt (f h1 xs) h1) σ H Q) : tCB (rBf X.K f) (tG X.K (rDs X.K) pl.l) σ H Q := by
  obtain ⟨ρ, h, J, re, rh, q⟩ := t
  refine (Post.step (R1 := rDs X.K) (f := pl.l) re rh q).mono fun xs H1 ⟨J1, h1, ds, e1, re1, rh1, rs, q1⟩ => ?_
  obtain ⟨d, hd, q2⟩ := Post.optX q1
  exact ⟨J1, h1, ds, d, rh1, rs, hd, q2⟩
theorem se_bfB {id : String} {f : Hh → List D → Option D} (hc : CallR X (.builtin id) (rBf X.K f)) (hb : bootBuiltins y = some (.builtin id)) (hn : y ≠ "__name__") (o : Ok c F G X) (hm : y ∈ c.bs) (hg : c.glb y = true) (he : plainXs (e :: es) = true) (hl : SEs X (e :: es) pl) :
    SE X (.Call (.Name y np) (e :: es) [] pos) (.plain fun ρ h => (pl.l ρ h).bind fun xs h1 => R.opt (f h1 xs) h1) := by
  simp only [plainXs, Bool.and_eq_true] at he
  exact SE.plain ((pe_callB hc (glb_ok o hg).1 (o.blt y hm) hb hl.l hn (glb_ok o hg).2 (plain_star he.1 _ _) (plainXs_any _ _ he.2)).imp fun σ H Q t => bf_do t) (fun _ => rfl)
theorem se_bfT {id : String} {f : Hh → List D → Option D} (hc : CallR X (.type id) (rBf X.K f)) (hb : bootBuiltins y = some (.type id)) (hn : y ≠ "__name__") (o : Ok c F G X) (hm : y ∈ c.bs) (hg : c.glb y = true) (he : plainXs (e :: es) = true) (hl : SEs X (e :: es) pl) :
    SE X (.Call (.Name y np) (e :: es) [] pos) (.plain fun ρ h => (pl.l ρ h).bind fun xs h1 => R.opt (f h1 xs) h1) := by
  simp only [plainXs, Bool.and_eq_true] at he
  exact SE.plain ((pe_callTy hc (glb_ok o hg).1 (o.blt y hm) hb hl.l hn (glb_ok o hg).2 (plain_star he.1 _ _) (plainXs_any _ _ he.2)).imp fun σ H Q t => bf_do t) (fun _ => rfl)
def bfOn : Bf → Bool
  | .list => false | .sorted => false
  | _ => true
theorem se_bf {f : Bf} (hf : bfOn f = true) (o : Ok c F G X) (hm : bfNm f ∈ c.bs) (hg : c.glb (bfNm f) = true) (he : plainXs (e :: es) = true) (hl : SEs X (e :: es) pl) :
    SE X (.Call (.Name (bfNm f) np) (e :: es) [] pos) (.plain fun ρ h => (pl.l ρ h).bind fun xs h1 => R.opt (opBf f h1 xs) h1) := by
  cases f with
  | len => exact se_bfB bf_len rfl (by decide) o hm hg he hl
  | int => exact se_bfT bf_int rfl (by decide) o hm hg he hl
  | abs => exact se_bfB bf_abs rfl (by decide) o hm hg he hl
  | tuple => exact se_bfT bf_tuple rfl (by decide) o hm hg he hl
  | max2 => exact se_bfB (bf_max o.calm) rfl (by decide) o hm hg he hl
  | min2 => exact se_bfB (bf_min o.calm) rfl (by decide) o hm hg he hl
  | sum => exact se_bfB (bf_sum o.calm) rfl (by decide) o hm hg he hl
  | all => exact se_bfB (bf_all o.calm) rfl (by decide) o hm hg he hl
  | any => exact se_bfB (bf_any o.calm) rfl (by decide) o hm hg he hl
  | repr => exact se_bfB (bf_repr o.units o.guards) rfl (by decide) o hm hg he hl
  | _ => cases hf
/-- list(x): a new list -/
theorem se_listF (o : Ok c F G X) (hm : ("list" : Str) ∈ c.bs) (hg : c.glb "list" = true) (he : plainXs (e :: es) = true) (hl : SEs X (e :: es) pl) :
    PE X (.Call (.Name "list" np) (e :: es) [] pos) (tF X.K fun ρ h => (pl.l ρ h).bind fun xs h1 => R.opt (opBf .list h1 xs) h1) := by
  simp only [plainXs, Bool.and_eq_true] at he
  refine (pe_callTy bf_list (glb_ok o hg).1 (o.blt _ hm) rfl hl.l (by decide) (glb_ok o hg).2 (plain_star he.1 _ _) (plainXs_any _ _ he.2)).imp fun σ H Q ⟨ρ, h, J, re, rh, q⟩ => ?_
  refine ⟨ρ, h, J, re, rh, ?_⟩
  dsimp only at q
  cases ev : pl.l ρ h with
  | bad => rw [ev] at q; exact False.elim q
  | err _ _ => rw [ev] at q; exact False.elim q
  | ok ds h1 =>
    rw [ev, R.bind_ok] at q
    intro J1 H1 vs e1 rh1 rs
    have hb : opBf .list h1 ds = bfList h1 ds := rfl
    rw [hb] at q
    cases ed : bfList h1 ds with
    | none => rw [ed] at q; exact False.elim q
    | some d =>
      rw [ed] at q
      refine ⟨J1, h1, ds, d, rh1, rs, ed, fun p ys ws hd np hz rr => ?_⟩
      subst hd
      refine q (J1.hide p) _ p ws ⟨rfl, e1.pre, fun a o n q => by rw [upd_ne (ne_of_none (e1.keep a o n q) np)]; exact e1.keep a o n q⟩ ?_ (rh1.hide np) upd_same hz ((rr.sub (Sub.hide np)).ext (Ext.laid np)) ?_
      · show p :: J1.z = p :: J.z; rw [e1.z]
      · cases hp : H p with
        | none => rfl
        | some u =>
          exfalso
          by_cases n : p ∈ J.l
          · obtain ⟨m, hm, _⟩ := e1.pre
            obtain ⟨u', h2⟩ := rh1.inl (a := p) (by rw [hm]; exact List.mem_append_left _ n)
            rw [np] at h2; cases h2
          · have := e1.keep p u n hp; rw [np] at this; cases this
theorem se_list (o : Ok c F G X) (hm : ("list" : Str) ∈ c.bs) (hg : c.glb "list" = true) (he : plainXs (e :: es) = true) (hl : SEs X (e :: es) pl) :
    SE X (.Call (.Name "list" np) (e :: es) [] pos) (.plain fun ρ h => (pl.l ρ h).bind fun xs h1 => R.opt (opBf .list h1 xs) h1) := by
  refine SE.plain (tF_val (se_listF o hm hg he hl) fun ρ h d h' e => ?_) (fun _ => rfl)
  cases ev : pl.l ρ h with
  | bad => rw [ev] at e; cases e
  | err _ _ => rw [ev] at e; cases e
  | ok ds h1 =>
    rw [ev, R.bind_ok] at e
    have hb : opBf .list h1 ds = bfList h1 ds := rfl
    rw [hb] at e
    unfold bfList at e
    split at e
    · rename_i x
      cases es : x.seq h1 with
      | none => rw [es] at e; cases e
      | some ys => rw [es] at e; cases e; exact ⟨_, rfl⟩
    · cases e

/-! ### isinstance -/
def tyNm : Ty → Str
  | .int => "int" | .str => "str" | .tup => "tuple" | .lst => "list" | .bl => "bool" | .dct => "dict" | .non => "NoneType"
theorem tyNm_boot (t : Ty) (ht : t ≠ .non) : bootBuiltins (tyNm t) = some (.type t.nm) := by cases t <;> first | rfl | exact absurd rfl ht
theorem se_isi {t : Ty} {ty : Str} {tp : Pos} (ht : t ≠ .non) (hty : ty = tyNm t) (o : Ok c F G X) (hm : ("isinstance" : Str) ∈ c.bs) (hg : c.glb "isinstance" = true) (hm2 : ty ∈ c.bs) (hg2 : c.glb ty = true) (hp : plainX a = true) (ha : SE X a pa) :
    SE X (.Call (.Name "isinstance" np) [a, .Name ty tp] [] pos) (.plain fun ρ h => (pa.v ρ h).bind fun x h1 => if x.isF then .bad else .ok (.bl (opIsi t h1 x)) h1) := by
  subst hty
  refine SE.plain ((pe_callB (isi_ops (t := t)) (glb_ok o hg).1 (o.blt _ hm) rfl (pa_cons ha.v (pa_cons (pe_bltn (v := .ty t.nm) (glb_ok o hg2).1 (o.blt _ hm2) (tyNm_boot t ht) rfl (by cases t <;> decide) (glb_ok o hg2).2) pa_nil) (plain_star hp _ _)) (by decide) (glb_ok o hg).2 (plain_star hp _ _) rfl).imp fun σ H Q ⟨ρ, h, J, re, rh, q⟩ => ?_) (fun _ => rfl)
  refine (Post.step (R1 := rD X.K) (f := pa.v) re rh q).mono fun x H1 ⟨J1, h1, dx, e1, re1, rh1, rx, q1⟩ => ?_
  split at q1
  · exact False.elim q1
  · rename_i hf
    exact ⟨J1, h1, dx, x, rh1, by simpa using hf, rx, rfl, q1 J1 H1 _ Ext.refl rh1 (.bl _)⟩

/-! ### methods -/
def mtNm : Mt → Str
  | .append => "append" | .pop => "pop" | .popAt => "pop" | .index => "index" | .count => "count"
theorem isL_ty {K : PySem.W.Frag} {J : Jn} {H : Hp} {h : Hh} {d : D} {v : V} (rh : RH K J h H) (r : RD K J H d v) (e : d.isL h = true) : tyV K "list" v H := by
  cases r with
  | lst n m q z rr => exact .inl ⟨rfl, _, .inl (.inl q)⟩
  | fz n m q z rr => exact .inl ⟨rfl, _, .inl (.inr ⟨_, q⟩)⟩
  | kfz k z rr => exact .inl ⟨rfl, _, .inr k⟩
  | ref q =>
    obtain ⟨o, u, h1, h2, h3⟩ := rh.at q
    simp only [D.isL, h1] at e
    cases h3 with
    | lst z rr => exact .inl ⟨rfl, _, .inl (.inl h2)⟩
    | dct z rr => cases e
  | _ => cases e
theorem mth_do {r : V → List V → Hp → VK → Prop} {m : Mt} {ol : PL} {σ : L2.St} {H : Hp} {Q : VK} (hr : ∀ x xs H Q, rMt X.K m x xs H Q → r x xs H Q)
    (t : tG X.K (rD X.K) (fun ρ h => (pa.v ρ h).bind fun x h1 => if x.isL h1 then (ol.l ρ h1).bind fun xs h2 => mthOp m x xs h2 else .bad) σ H Q) : tBM X.K "list" r (tG X.K (rD X.K) pa.v) (tG X.K (rDs X.K) ol.l) σ H Q := by
  obtain ⟨ρ, h, J, re, rh, q⟩ := t
  refine (Post.step (R1 := rD X.K) (f := pa.v) re rh q).mono fun x H1 ⟨J1, h1, dx, e1, re1, rh1, rx, q1⟩ => ?_
  cases hx : dx.isL h1 with
  | false => rw [hx] at q1; exact False.elim q1
  | true =>
    rw [hx] at q1
    simp only [if_true] at q1
    refine ⟨isL_ty rh1 rx hx, ?_⟩
    refine (Post.step (R1 := rDs X.K) (f := ol.l) re1 rh1 q1).mono fun xs H2 ⟨J2, h2, ds, e2, re2, rh2, rs, q2⟩ => hr _ _ _ _ ?_
    cases ev : mthOp m dx ds h2 with
    | bad => rw [ev] at q2; exact False.elim q2
    | err _ _ => rw [ev] at q2; exact False.elim q2
    | ok d h3 => rw [ev] at q2; exact ⟨J2, h2, dx, ds, d, h3, rh2, rx.ext e2, rs, ev, q2⟩
def mtOn : Mt → Bool
  | .append => true | .pop => true | .popAt => true
  | _ => false
def mtIx : Mt → Bool
  | .index => true
  | _ => false
def baseX : Expr → Bool
  | .Call _ [] _ _ => false
  | _ => true
theorem base_of {a : Expr} {m : Str} {env : PySem.Env} {w : Sem Value} (h : baseX a = true) : attributeBase a m env w = w := by
  cases a with
  | Call f as ks p =>
    cases as with
    | nil => cases h
    | cons a as => cases f <;> rfl
  | _ => rfl
theorem few_of (cpos : Pos) (env : PySem.Env) {es : List Expr} (h : plainXs es = true) (hl : es.length < 30) : ((backTo cpos (starEach es env)).all (fun x => !x.1) && (backToKw cpos (keywordEach [] env)).all (fun x => x.1.isSome)
      && decide (es.length + ([] : List Keyword).length + (if ([] : List Keyword).isEmpty then 0 else 1) < 30)) = true := by
  have h1 : (backTo cpos (starEach es env)).all (fun x => !x.1) = true := by
    have := plainXs_any cpos env h
    rw [List.any_eq_false] at this
    rw [List.all_eq_true]
    intro x hx
    have := this x hx
    simpa using this
  rw [h1]
  simp only [Bool.true_and, Bool.and_eq_true, decide_eq_true_eq]
  exact ⟨rfl, by simpa using hl⟩
theorem se_mth {m : Mt} {es : List Expr} (hm : mtOn m = true) (hx : baseX a = true) (hline : (apos.endLine == cpos.line) = true) (hp : plainXs es = true) (hlen : es.length < 30) (h0 : es = [] → pl.l = fun _ h => .ok [] h) (ha : SE X a pa) (hl : SEs X es pl) :
    SE X (.Call (.Attribute a (mtNm m) apos) es [] cpos) (.plain fun ρ h => (pa.v ρ h).bind fun x h1 => if x.isL h1 then (pl.l ρ h1).bind fun xs h2 => mthOp m x xs h2 else .bad) := by
  have gen : ∀ {id : String} {r : V → List V → Hp → VK → Prop}, Slot "list" (mtNm m) id → typeOf (.builtin id) = pure (.type "method_descriptor") → MtR X id r → (∀ x xs H Q, rMt X.K m x xs H Q → r x xs H Q) →
      SE X (.Call (.Attribute a (mtNm m) apos) es [] cpos) (.plain fun ρ h => (pa.v ρ h).bind fun x h1 => if x.isL h1 then (pl.l ρ h1).bind fun xs h2 => mthOp m x xs h2 else .bad) := by
    intro id r slot hty hmt hr
    refine SE.plain ?_ (fun _ => rfl)
    cases es with
    | nil =>
      refine (pe_bm0 PySem.F.plainAttrs_list slot hty hmt ha.v (base_of hx) hline).imp fun σ H Q t => ?_
      refine (mth_do hr t).mono fun x H1 ⟨ty, ρ, h, J, re, rh, q⟩ => ⟨ty, ?_⟩
      rw [h0 rfl] at q
      exact q J H1 [] Ext.refl rh .nil
    | cons e es =>
      have hp' := hp
      simp only [plainXs, Bool.and_eq_true] at hp'
      exact (pe_bm PySem.F.plainAttrs_list slot hty hmt ha.v hl.l (base_of hx) (few_of _ _ hp hlen) hline (plain_star hp'.1 _ _) (plainXs_any _ _ hp'.2)).imp fun σ H Q t => mth_do hr t
  cases m with
  | append => exact gen PySem.F.slot_list_append rfl mt_appendD fun _ _ _ _ z => z
  | pop => exact gen PySem.F.slot_list_pop rfl mt_popD fun _ _ _ _ z => .inl z
  | popAt => exact gen PySem.F.slot_list_pop rfl mt_popD fun _ _ _ _ z => .inr z
  | _ => cases hm

/-! ### a written tuple whose object is known; t.index(n) -/
theorem se_ftup {es : List Expr} {pl : PL} {k : Nat} (hl : SEs X es pl) : SE X (.Tuple es k pos) (.plain fun ρ h => (pl.l ρ h).bind fun xs h1 => if sizeOk xs.length then .ok (.ftup xs) h1 else .bad) := by
  refine SE.plain ((pe_ftup hl.l).imp fun σ H Q ⟨ρ, h, J, re, rh, q⟩ => ?_) (fun _ => rfl)
  refine (Post.step (R1 := rDs X.K) (f := pl.l) re rh q).mono fun xs H1 ⟨J1, h1, ds, e1, re1, rh1, rs, q1⟩ => ?_
  split at q1
  · rename_i hz
    have hz' : xs.length ≤ sizeLine := by rw [← rs.length]; exact size_of hz
    exact ⟨hz', fun p o np hc hd => q1 _ _ _ (Ext.laid np) (rh1.laid np) (.ft (rh1.notin np) (rh1.notz np) upd_same hc hd hz' (rs.ext (Ext.laid np)))⟩
  · exact False.elim q1
theorem tint_rel {K : PySem.W.Frag} {J : Jn} {H : Hp} : ∀ {ds : List D} {vs : List V} {ns : List Int}, RDs K J H ds vs → D.ints ds = some ns → vs = ns.map V.int
  | [], _, _, .nil, e => by cases e; rfl
  | d :: ds, _, ns, .cons r t, e => by
    cases d with
    | int i =>
      simp only [D.ints, Option.map_eq_some_iff] at e
      obtain ⟨ms, e1, rfl⟩ := e
      cases r
      rw [tint_rel t e1]; rfl
    | _ => cases e
theorem stepAt {K : PySem.W.Frag} {J : Jn} {H : Hp} {h h1 : Hh} {ρ : PV.Env} {σ : L2.St} {f : PV.Env → Hh → R D} {g : D → Hh → R D} {Q : VK} {dx : D} (re : RE K J H ρ σ) (rh : RH K J h H) (ev : f ρ h = .ok dx h1) (p : Post K J H (rD K) ((f ρ h).bind g) Q) :
    tG K (rD K) f σ H (fun b H1 => ∃ J1, Ext J H J1 H1 ∧ RE K J1 H1 ρ σ ∧ RH K J1 h1 H1 ∧ rD K J1 H1 dx b ∧ Post K J1 H1 (rD K) (g dx h1) Q) := by
  refine ⟨ρ, h, J, re, rh, ?_⟩
  rw [ev] at p ⊢
  exact fun J1 H1 b e rh1 rl => ⟨J1, e, re.ext e, rh1, rl, Post.ext rh rh1 e p⟩
theorem idx_inv {ds xs : List D} {d : D} (e : idxD ds xs = some d) : ∃ z ns, xs = [.int z] ∧ D.ints ds = some ns ∧ z ∈ ns ∧ d = .int (ns.idxOf z : Nat) := by
  unfold idxD at e
  split at e
  · rename_i z
    simp only [Option.bind_eq_some_iff] at e
    obtain ⟨ns, h1, h2⟩ := e
    split at h2
    · rename_i hz; cases h2; exact ⟨z, ns, rfl, h1, hz, rfl⟩
    · cases h2
  · cases e
theorem se_tidx {es : List Expr} {e0 : Expr} (hx : baseX a = true) (hline : (apos.endLine == cpos.line) = true) (hp : plainXs (e0 :: es) = true) (hlen : (e0 :: es).length < 30) (ha : SE X a pa) (hl : SEs X (e0 :: es) pl) :
    SE X (.Call (.Attribute a "index" apos) (e0 :: es) [] cpos) (mthI pa pl) := by
  have hp' := hp
  simp only [plainXs, Bool.and_eq_true] at hp'
  refine SE.plain ⟨fun pins s σ H Q I ⟨ρ, h, J, re, rh, q⟩ => ?_⟩ (fun _ => rfl)
  dsimp only at q
  have q0 := q
  cases ev : pa.v ρ h with
  | bad => rw [ev] at q; exact False.elim q
  | err _ _ => rw [ev] at q; exact False.elim q
  | ok dx h1 =>
    cases hi : dx.ixs with
    | none => rw [ev] at q; simp only [R.bind_ok, hi] at q; exact False.elim q
    | some ds =>
      have st := stepAt re rh ev q0
      have rest : ∀ (S : PySem.W.Frag → Hp → Addr → List V → Prop) (J1 : Jn) (H1 : Hp) (b : V), RE X.K J1 H1 ρ σ → RH X.K J1 h1 H1 → (∀ J2 H2, Ext J1 H1 J2 H2 → ∃ p vs, b = .ref p ∧ S X.K H2 p vs ∧ RDs X.K J2 H2 ds vs) →
          Post X.K J1 H1 (rD X.K) (match dx.ixs with | some ds => (pl.l ρ h1).bind fun xs h2 => R.opt (idxD ds xs) h2 | none => .bad) Q → tG X.K (rDs X.K) pl.l σ H1 (fun xs H2 => rIdx S X.K b xs H2 Q) := by
        intro S J1 H1 b re1 rh1 hS q1
        simp only [hi] at q1
        refine (Post.step (R1 := rDs X.K) (f := pl.l) re1 rh1 q1).mono fun xs H2 ⟨J2, h2, es2, e2, re2, rh2, rs, q2⟩ => ?_
        obtain ⟨d, hd, q3⟩ := Post.optX q2
        obtain ⟨z, ns, rfl, hn, hz, rfl⟩ := idx_inv hd
        obtain ⟨p, vs, rfl, hs, rr⟩ := hS J2 H2 e2
        rw [tint_rel rr hn] at hs
        obtain ⟨w, rfl, r1⟩ := one_inv rs
        cases r1
        exact ⟨p, ns, z, rfl, rfl, hs, hz, q3 _ _ _ Ext.refl rh2 (.int _)⟩
      have lists : (∀ J1 H1 b, rD X.K J1 H1 dx b → ∃ p vs, b = .ref p ∧ (∀ J2 H2, Ext J1 H1 J2 H2 → SqL X.K H2 p vs ∧ RDs X.K J2 H2 ds vs)) → wpAny (model X.prog X.w) X.A (eval (.Call (.Attribute a "index" apos) (e0 :: es) [] cpos) X.env) (EP X pins σ Q) X.xe s := by
        intro hS
        refine (pe_bm PySem.F.plainAttrs_list PySem.F.slot_list_index rfl mt_lstIdx ha.v hl.l (base_of hx) (few_of _ _ hp hlen) hline (plain_star hp'.1 _ _) (plainXs_any _ _ hp'.2)).run pins s σ H Q I ?_
        obtain ⟨ρ', h', J', re', rh', p'⟩ := st
        refine ⟨ρ', h', J', re', rh', Post.mono p' fun b H1 ⟨J1, e1, re1, rh1, rx, q1⟩ => ?_⟩
        obtain ⟨p, vs, rfl, hh⟩ := hS J1 H1 b rx
        exact ⟨.inl ⟨rfl, _, (hh J1 H1 Ext.refl).1⟩, rest SqL J1 H1 _ re1 rh1 (fun J2 H2 e2 => ⟨p, vs, rfl, hh J2 H2 e2⟩) q1⟩
      cases dx with
      | lst xs =>
        cases hi
        refine lists fun J1 H1 b r => ?_
        cases r with
        | lst n m q z rr => exact ⟨_, _, rfl, fun J2 H2 e2 => ⟨.inl (.inl (e2.keep _ _ n q)), rr.ext e2⟩⟩
      | fz xs =>
        cases hi
        refine lists fun J1 H1 b r => ?_
        cases r with
        | fz n m q z rr => exact ⟨_, _, rfl, fun J2 H2 e2 => ⟨.inl (.inr ⟨_, e2.keep _ _ n q⟩), rr.ext e2⟩⟩
        | kfz k z rr => exact ⟨_, _, rfl, fun J2 H2 e2 => ⟨.inr k, rr.ext e2⟩⟩
      | ftup xs =>
        cases hi
        refine (pe_fm PySem.F.slot_tuple_index rfl mt_tupIdx ha.v hl.l (base_of hx) (few_of _ _ hp hlen) hline (plain_star hp'.1 _ _) (plainXs_any _ _ hp'.2)).run pins s σ H Q I ?_
        obtain ⟨ρ', h', J', re', rh', p'⟩ := st
        refine ⟨ρ', h', J', re', rh', Post.mono p' fun b H1 ⟨J1, e1, re1, rh1, rx, q1⟩ => ?_⟩
        cases rx with
        | ft n m q c d z rr => exact ⟨⟨_, _, _, rfl, q, c, d⟩, rest SqT J1 H1 _ re1 rh1 (fun J2 H2 e2 => ⟨_, _, rfl, .inl (.inr ⟨_, e2.keep _ _ n q⟩), rr.ext e2⟩) q1⟩
      | _ => cases hi

/-! ### tuple(enumerate(a tuple)) -/
theorem se_tenum {ep : Pos} {cp : Pos} (o : Ok c F G X) (hm : ("tuple" : Str) ∈ c.bs) (hg : c.glb "tuple" = true) (hm2 : ("enumerate" : Str) ∈ c.bs) (hg2 : c.glb "enumerate" = true) (hp : plainX a = true) (ha : SE X a pa) :
    SE X (.Call (.Name "tuple" np) [.Call (.Name "enumerate" ep) [a] [] cp] [] pos) (.plain fun ρ h => (pa.v ρ h).bind fun x h1 => R.opt (tenumOp x) h1) := by
  refine SE.plain ⟨fun pins s σ H Q I ⟨ρ, h, J, re, rh, q⟩ => ?_⟩ (fun _ => rfl)
  refine wpAny_Call_Name_kw (ld_blt I (glb_ok o hg).1 (o.blt _ hm) rfl (PyProof.Rows.callWith_type1 ?_ rfl rfl) (by decide) (glb_ok o hg).2)
  show wpAny _ _ (spliced [(false, eval (.Call (.Name "enumerate" ep) [a] [] cp) X.env)]) _ _ s
  refine Calls.spliced_cons ?_
  refine wpAny_Call_Name_kw (ld_blt I (glb_ok o hg2).1 (o.blt _ hm2) rfl (PyProof.Rows.callWith_type1 ?_ (plain_star hp _ _) rfl) (by decide) (glb_ok o hg2).2)
  have step : tCons (tG X.K (rD X.K) pa.v) tNil σ H (fun xs H1 => ∃ y, xs = [y] ∧ ∃ J1 h1 dx, Ext J H J1 H1 ∧ RE X.K J1 H1 ρ σ ∧ RH X.K J1 h1 H1 ∧ RD X.K J1 H1 dx y ∧ Post X.K J1 H1 (rD X.K) (R.opt (tenumOp dx) h1) Q) :=
    (Post.step (R1 := rD X.K) (f := pa.v) re rh q).mono fun b H1 z => ⟨b, rfl, z⟩
  refine thn ((pa_cons ha.v pa_nil (plain_star hp _ _)).run cp pins s σ H _ I step) fun us s1 ⟨xs, H1, I1, r1, y, ex, J1, h1, dx, e1, re1, rh1, rx, q1⟩ => ?_
  subst ex
  obtain ⟨u, rfl, ru⟩ : ∃ u, us = [u] ∧ L2.RelV y u := by
    cases r1 with | cons p t => cases t; exact ⟨_, rfl, p⟩
  cases ht : tenumOp dx with
  | none => rw [ht] at q1; exact False.elim q1
  | some d =>
    rw [ht] at q1
    unfold tenumOp at ht
    split at ht
    · rename_i ds
      split at ht
      · cases ht
        obtain ⟨a0, vs0, ey, _⟩ := rx.tup_inv
        subst ey
        cases (show u = Value.ref a0 from ru)
        refine thn (tenum_run o.calm I1 rh1 rx fun J' H' v e2 rh2 rv => q1 J' H' v e2 rh2 rv) fun ev s2 hv => Calls.spliced_nil hv
      · cases ht
    · cases ht
end
end
end PV
end

section
set_option maxRecDepth 100000
namespace PV
open L2 PySem PySem.Spec PyProof.Rows

/-! ### a text read as E -/
def relabelS (scope sc : Scope) : Scope :=
  { scope with names := scope.names.map fun (n, k) =>
      if (k == .free && sc.kind == .function && sc.names.lookup n == some .cell) then (n, .cell) else (n, k) }
def Cs.blk (c : Cs) (scope : Scope) : Cs := { c with sc := relabelS scope c.sc, fn := fun x => scope.names.lookup x == some .cell }
def Cs.own (c : Cs) (t : Tg) : List (Str × Nat) := t.slots.map fun i => (c.N.getD i "", i)
def Cs.blt (c : Cs) (x : Str) : Bool := decide (x ∈ c.bs) && c.glb x
/-- a name that is set -/
def mV (c : Cs) (i : Nat) (x : Expr) : Bool := match asName x with
  | some y => c.loc i y
  | none => false
def mVs (c : Cs) : List Nat → List Expr → Bool
  | [], [] => true
  | i :: is, x :: xs => mV c i x && mVs c is xs
  | _, _ => false
def mT (c : Cs) : Tg → Expr → Bool
  | .v i, x => mV c i x
  | .tu is, x => match asTup x with
    | some xs => mVs c is xs
    | none => false
mutual
def mE (c : Cs) : E → Expr → Bool
  | .var i, x => match asName x with | some y => c.vis i y | none => false
  | .con d, x => match asCon x with | some k => conM d k | none => false
  | .glo i, x => match asName x with | some y => decide (c.gn[i]? = some y) && c.glb y | none => false
  | .miss, _ => false
  | .tup es, x => match asTup x with | some xs => mEs c es xs | none => false
  | .ftup es, x => match asTup x with | some xs => mEs c es xs | none => false
  | .lst es, x => match asLst x with | some xs => mEs c es xs | none => false
  | .new e, x => mF c e x
  | .dic0, x => asDic0 x
  | .bin o a b, x => match asBin x with | some (y, p, z) => bopM o p && mE c a y && mE c b z | none => false
  | .neg a, x => match asUn x with | some (.USub, y) => mE c a y | _ => false
  | .cmp o a b, x => match asCmp1 x with | some (y, p, z) => copM o p && plainX z && mE c a y && mE c b z | none => false
  | .chain o o' a b d, x => match asCmp2 x with | some (y, p, p', z, w) => copM o p && copM o' p' && plainX w && mE c a y && mE c b z && mE c d w | none => false
  | .and a r, x => match asBool x with | some (.And, y, ys) => mE c a y && mEs c r ys && !ys.isEmpty | _ => false
  | .or a r, x => match asBool x with | some (.Or, y, ys) => mE c a y && mEs c r ys && !ys.isEmpty | _ => false
  | .not a, x => match asUn x with | some (.Not, y) => mE c a y | _ => false
  | .ite t a b, x => match asIf x with | some (w, y, z) => mE c t w && mE c a y && mE c b z | none => false
  | .idx a i, x => match asSub x with | some (y, z) => plainX z && mE c a y && mE c i z | none => false
  | .slc a lo hi, x => match asSub x with
    | some (y, z) => match asSlc z with
      | some (l, u) => mE c a y && (match l with | none => lo.isMiss | some l => !lo.isMiss && mE c lo l) && (match u with | none => hi.isMiss | some u => !hi.isMiss && mE c hi u)
      | none => false
    | none => false
  | .call f es, x => match asCall x with
    | some (y, xs) => match c.T[f]? with
      | some fn => decide (fn.name = y) && decide (fn.P.length = xs.length) && c.glb y && plainXs xs && mEs c es xs
      | none => false
    | none => false
  | .callK f es kes pm, x => match asCallK x with
    | some (y, xs, kws) => match c.T[f]? with
      | some fn => decide (fn.name = y) && decide ((xs.length, kwNms kws, pm) ∈ fn.kw) && kwAll kws && decide ((kwNms kws).length = kws.length) && c.glb y && plainXs xs && mEs c es xs && mEs c kes (kws.map (·.value))
      | none => false
    | none => false
  | .bf f es, x => match asCall x with
    | some (y, xs) => decide (y = bfNm f) && c.blt y && !xs.isEmpty && plainXs xs && mEs c es xs && (bfOn f || match f with | .list => true | _ => false)
    | none => false
  | .isi a t, x => match asIsi x with
    | some (f, y, ty) => decide (f = "isinstance") && (match t with | .non => false | _ => true) && decide (ty = tyNm t) && c.blt f && c.blt ty && plainX y && mE c a y
    | none => false
  | .mth m o es, x => match asMth x with
    | some (y, nm, xs) => decide (nm = mtNm m) && (mtOn m || (mtIx m && !xs.isEmpty)) && baseX y && plainXs xs && decide (xs.length < 30) && mE c o y && mEs c es xs
    | none => false
  | .lc t it d e, x => match asLc x with
    | some (elt, tg, iter, ifs, scope) => blkC c.N c.sc scope (c.own t) && mI c it tg iter && plainX iter && mT (c.blk scope) t tg && mE (c.blk scope) e elt && (match ifs with
      | [] => d.isMiss
      | [i] => mE (c.blk scope) d i
      | _ => false)
    | none => false
  | .tenum a, x => match asTenum x with
    | some (f, g, y) => decide (f = "tuple") && decide (g = "enumerate") && c.blt f && c.blt g && plainX y && mE c a y
    | none => false
def mF (c : Cs) : E → Expr → Bool
  | .lst es, x => match asLst x with | some xs => mEs c es xs | none => false
  | .bf .list es, x => match asCall x with
    | some (y, xs) => decide (y = "list") && c.blt y && !xs.isEmpty && plainXs xs && mEs c es xs
    | none => false
  | .lc t it d e, x => match asLc x with
    | some (elt, tg, iter, ifs, scope) => blkC c.N c.sc scope (c.own t) && mI c it tg iter && plainX iter && mT (c.blk scope) t tg && mE (c.blk scope) e elt && (match ifs with
      | [] => d.isMiss
      | [i] => mE (c.blk scope) d i
      | _ => false)
    | none => false
  | _, _ => false
def mEs (c : Cs) : Es → List Expr → Bool
  | .nil, [] => true
  | .cons e es, x :: xs => plainX x && mE c e x && mEs c es xs
  | _, _ => false
def mI (c : Cs) : I → Expr → Expr → Bool
  | .ev e, _, x => mE c e x
  | .rng n, _, x => match asCall x with
    | some (f, [y]) => decide (f = "range") && c.blt f && plainX y && mE c n y
    | _ => false
  | .rng2 a b, _, x => match asCall x with
    | some (f, [y, z]) => decide (f = "range") && c.blt f && plainX y && plainX z && mE c a y && mE c b z
    | _ => false
  | .zip a b, tg, x => match asCall x with
    | some (f, [y, z]) => decide (f = "zip") && c.blt f && plainX y && plainX z && mE c a y && mE c b z && (asTup tg).isSome
    | _ => false
  | .enum _, _, _ => false
end
end PV
end

section
set_option maxRecDepth 100000
namespace PV
open L2 PySem PySem.Spec PyProof.Rows
section
variable {c : Cs} {F : Fns} {G : List D} {X : Cx}
theorem Ok.blk (o : Ok c F G X) {s : Shared} {H : Hp} {scope : Scope} {cl : List (Str × Addr)} {C : Addr} {fp : List Addr} : Ok (c.blk scope) F G (X.blk s H scope (compEnvC scope cl C X.env) fp) where
  hN := o.hN
  nd := o.nd
  sc := by
    show relabel scope X.env = relabelS scope c.sc
    unfold relabel relabelS PySem.Env.kindOf
    rw [o.sc]
  fn := rfl
  calm := o.calm
  call := ⟨o.call.ok⟩
  blt := o.blt
  glo := o.glo
theorem blt_ok {y : Str} (h : c.blt y = true) : y ∈ c.bs ∧ c.glb y = true := by
  simp only [Cs.blt, Bool.and_eq_true, decide_eq_true_eq] at h; exact h
theorem own_snd (t : Tg) : (c.own t).map (·.2) = t.slots := by simp [Cs.own, Function.comp_def]
theorem sv_ok {i : Nat} {x : Expr} (o : Ok c F G X) (h : mV c i x = true) : ∃ y p, x = .Name y p ∧ X.N[i]? = some y ∧ L2.Loc X.env.scope y ∧ (X.fn y = true ∨ X.env.scope.names.lookup y = some .local) := by
  unfold mV at h
  split at h
  · rename_i y hy
    obtain ⟨p, rfl⟩ := asName_eq hy
    obtain ⟨h1, h2, h3⟩ := loc_ok o h
    exact ⟨y, p, rfl, h1, h2, h3⟩
  · cases h
theorem svs_ok (o : Ok c F G X) : ∀ {is : List Nat} {xs : List Expr}, mVs c is xs = true → STs X xs is
  | [], [], _ => sts_nil
  | [], _ :: _, h => by cases h
  | _ :: _, [], h => by cases h
  | i :: is, x :: xs, h => by
    simp only [mVs, Bool.and_eq_true] at h
    obtain ⟨y, p, rfl, h1, h2, h3⟩ := sv_ok o h.1
    exact sts_cons o.nd h1 h2 h3 (svs_ok o h.2)
theorem st_ok (o : Ok c F G X) {t : Tg} {x : Expr} (h : mT c t x = true) : ST X x t t.slots := by
  cases t with
  | v i =>
    obtain ⟨y, p, rfl, h1, h2, h3⟩ := sv_ok o (show mV c i x = true from h)
    exact st_v o.nd h1 h2 h3
  | tu is =>
    simp only [mT] at h
    split at h
    · rename_i xs hx
      obtain ⟨k, p, rfl⟩ := asTup_eq hx
      exact st_tu o.calm (svs_ok o h)
    · cases h
def Es.len : Es → Nat
  | .nil => 0
  | .cons _ es => es.len + 1
theorem es_len : ∀ (es : Es) (ρ : Env) (h : Hh) (ds : List D) (h' : Hh), (evEs F G es).l ρ h = .ok ds h' → ds.length = es.len
  | .nil, ρ, h, ds, h', e => by cases e; rfl
  | .cons a es, ρ, h, ds, h', e => by
    have e : ((evE F G a).v ρ h).bind (fun x h1 => ((evEs F G es).l ρ h1).bind fun xs h2 => .ok (x :: xs) h2) = .ok ds h' := e
    cases e1 : (evE F G a).v ρ h with
    | ok x h1 =>
      rw [e1, R.bind_ok] at e
      cases e2 : (evEs F G es).l ρ h1 with
      | ok xs h2 =>
        rw [e2, R.bind_ok] at e
        cases e
        show xs.length + 1 = es.len + 1
        rw [es_len es _ _ _ _ e2]
      | bad => rw [e2] at e; cases e
      | err _ _ => rw [e2] at e; cases e
    | bad => rw [e1] at e; cases e
    | err _ _ => rw [e1] at e; cases e
theorem mEs_len : ∀ {es : Es} {xs : List Expr}, mEs c es xs = true → es.len = xs.length
  | .nil, [], _ => rfl
  | .nil, _ :: _, h => by cases h
  | .cons _ _, [], h => by cases h
  | .cons e es, x :: xs, h => by
    simp only [mEs, Bool.and_eq_true] at h
    show es.len + 1 = xs.length + 1
    rw [mEs_len h.2]
theorem mEs_nil {es : Es} {xs : List Expr} (h : mEs c es xs = true) : xs = [] → (evEs F G es).l = fun _ h => .ok [] h := by
  rintro rfl
  cases es with
  | nil => rfl
  | cons _ _ => cases h
/-- a list made anew -/
def SF (X : Cx) (x : Expr) (v : Env → Hh → R D) : Prop := PE X x (tF X.K v) ∧ ∀ whole, isTrue x X.env whole = (do let v ← whole; standAt x.pos; holding [v] (truthy v))
mutual
theorem sE : ∀ (t : E) {c : Cs} {X : Cx} (o : Ok c F G X) (x : Expr), mE c t x = true → SE X x (evE F G t)
  | .var i, c, X, o, x, h => by
    simp only [mE] at h
    split at h
    · rename_i y hy
      obtain ⟨p, rfl⟩ := asName_eq hy
      exact se_var o h
    · cases h
  | .con d, c, X, o, x, h => by
    simp only [mE] at h
    split at h
    · rename_i y hy
      obtain ⟨k, p, rfl⟩ := asCon_eq hy
      exact se_con h
    · cases h
  | .glo i, c, X, o, x, h => by
    simp only [mE] at h
    split at h
    · rename_i y hy
      obtain ⟨p, rfl⟩ := asName_eq hy
      (simp only [Bool.and_eq_true, decide_eq_true_eq] at h)
      exact se_glo o h.1 h.2
    · cases h
  | .miss, c, X, o, x, h => by cases h
  | .tup es, c, X, o, x, h => by
    simp only [mE] at h
    split at h
    · rename_i y hy
      obtain ⟨k, p, rfl⟩ := asTup_eq hy
      exact se_tup (sEs es o _ h)
    · cases h
  | .ftup es, c, X, o, x, h => by
    simp only [mE] at h
    split at h
    · rename_i y hy
      obtain ⟨k, p, rfl⟩ := asTup_eq hy
      exact se_ftup (sEs es o _ h)
    · cases h
  | .lst es, c, X, o, x, h => by
    simp only [mE] at h
    split at h
    · rename_i y hy
      obtain ⟨p, rfl⟩ := asLst_eq hy
      exact se_lst (sEs es o _ h)
    · cases h
  | .new e, c, X, o, x, h => se_new (sF e o x h).1 (sF e o x h).2
  | .dic0, c, X, o, x, h => by
    obtain ⟨p, rfl⟩ := asDic0_eq h
    exact se_dic0
  | .bin op a b, c, X, o, x, h => by
    simp only [mE] at h
    split at h
    · rename_i y p z hy
      obtain ⟨q, rfl⟩ := asBin_eq hy
      (simp only [Bool.and_eq_true] at h)
      exact se_bin' (bopM_ok h.1.1) (sE a o _ h.1.2) (sE b o _ h.2)
    · cases h
  | .neg a, c, X, o, x, h => by
    simp only [mE] at h
    split at h
    · rename_i y hy
      obtain ⟨q, rfl⟩ := asUn_eq hy
      exact se_neg (sE a o _ h)
    · cases h
  | .cmp op a b, c, X, o, x, h => by
    simp only [mE] at h
    split at h
    · rename_i y p z hy
      obtain ⟨q, rfl⟩ := asCmp1_eq hy
      (simp only [Bool.and_eq_true] at h)
      exact se_cmp' (copM_ok o.units h.1.1.1) h.1.1.2 (sE a o _ h.1.2) (sE b o _ h.2)
    · cases h
  | .chain op op' a b d, c, X, o, x, h => by
    simp only [mE] at h
    split at h
    · rename_i y p p' z w hy
      obtain ⟨q, rfl⟩ := asCmp2_eq hy
      (simp only [Bool.and_eq_true] at h)
      exact se_chain (copM_ok o.units h.1.1.1.1.1) (copM_ok o.units h.1.1.1.1.2) h.1.1.1.2 (sE a o _ h.1.1.2) (sE b o _ h.1.2) (sE d o _ h.2)
    · cases h
  | .and a r, c, X, o, x, h => by
    simp only [mE] at h
    split at h
    · rename_i y ys hy
      obtain ⟨q, rfl⟩ := asBool_eq hy
      (simp only [Bool.and_eq_true, Bool.not_eq_true'] at h)
      exact se_and (sE a o _ h.1.1) (sEs r o _ h.1.2) h.2
    · cases h
  | .or a r, c, X, o, x, h => by
    simp only [mE] at h
    split at h
    · rename_i y ys hy
      obtain ⟨q, rfl⟩ := asBool_eq hy
      (simp only [Bool.and_eq_true, Bool.not_eq_true'] at h)
      exact se_or (sE a o _ h.1.1) (sEs r o _ h.1.2) h.2
    · cases h
  | .not a, c, X, o, x, h => by
    simp only [mE] at h
    split at h
    · rename_i y hy
      obtain ⟨q, rfl⟩ := asUn_eq hy
      exact se_not (sE a o _ h)
    · cases h
  | .ite t a b, c, X, o, x, h => by
    simp only [mE] at h
    split at h
    · rename_i y p z hy
      obtain ⟨q, rfl⟩ := asIf_eq hy
      (simp only [Bool.and_eq_true] at h)
      exact se_ite (sE t o _ h.1.1) (sE a o _ h.1.2) (sE b o _ h.2)
    · cases h
  | .idx a i, c, X, o, x, h => by
    simp only [mE] at h
    split at h
    · rename_i y z hy
      obtain ⟨q, rfl⟩ := asSub_eq hy
      (simp only [Bool.and_eq_true] at h)
      exact se_idx o.units h.1.1 (sE a o _ h.1.2) (sE i o _ h.2)
    · cases h
  | .slc a lo hi, c, X, o, x, h => by
    simp only [mE] at h
    split at h
    · rename_i y z hy
      obtain ⟨q, rfl⟩ := asSub_eq hy
      split at h
      · rename_i l u hz
        obtain ⟨sp, rfl⟩ := asSlc_eq hz
        (simp only [Bool.and_eq_true] at h)
        obtain ⟨⟨h1, h2⟩, h3⟩ := h
        refine se_slc (sE a o _ h1) ?_ ?_
        · cases l with
          | none => have h2 : lo.isMiss = true := h2; rw [h2]; exact so_none
          | some l =>
            have h2 : (!lo.isMiss && mE c lo l) = true := h2
            simp only [Bool.and_eq_true, Bool.not_eq_true'] at h2
            rw [h2.1]; exact so_some (sE lo o _ h2.2)
        · cases u with
          | none => have h3 : hi.isMiss = true := h3; rw [h3]; exact so_none
          | some u =>
            have h3 : (!hi.isMiss && mE c hi u) = true := h3
            simp only [Bool.and_eq_true, Bool.not_eq_true'] at h3
            rw [h3.1]; exact so_some (sE hi o _ h3.2)
      · cases h
    · cases h
  | .call f es, c, X, o, x, h => by
    simp only [mE] at h
    split at h
    · rename_i y xs hy
      obtain ⟨p, q, rfl⟩ := asCall_eq hy
      split at h
      · rename_i fn hf
        (simp only [Bool.and_eq_true, decide_eq_true_eq] at h)
        obtain ⟨⟨⟨⟨h1, h2⟩, h3⟩, h4⟩, h5⟩ := h
        exact se_call o hf h1 h3 h4 (mEs_nil h5) (fun ρ h0 ds h' e => by rw [es_len es _ _ _ _ e, mEs_len h5, h2]) (sEs es o _ h5)
      · cases h
    · cases h
  | .callK f es kes pm, c, X, o, x, h => by
    simp only [mE] at h
    split at h
    · rename_i y xs kws hy
      obtain ⟨p, q, rfl⟩ := asCallK_eq hy
      split at h
      · rename_i fn hf
        (simp only [Bool.and_eq_true, decide_eq_true_eq] at h)
        (obtain ⟨⟨⟨⟨⟨⟨⟨h1, h2⟩, h3⟩, h4⟩, h5⟩, h6⟩, h7⟩, h8⟩ := h)
        exact se_callK o hf h1 h5 h6 h2 (mEs_nil h7) (fun ρ h0 ds h' e => by rw [es_len es _ _ _ _ e, mEs_len h7]) (fun ρ h0 ds h' e => by rw [es_len kes _ _ _ _ e, mEs_len h8, h4, List.length_map]) h3 (sEs es o _ h7) (sEs kes o _ h8)
      · cases h
    · cases h
  | .bf f es, c, X, o, x, h => by
    simp only [mE] at h
    split at h
    · rename_i y xs hy
      obtain ⟨p, q, rfl⟩ := asCall_eq hy
      simp only [Bool.and_eq_true, decide_eq_true_eq, Bool.not_eq_true'] at h
      obtain ⟨⟨⟨⟨⟨h1, h2⟩, h3⟩, h4⟩, h5⟩, h6⟩ := h
      subst h1
      obtain ⟨e, es', rfl⟩ := isEmpty_cons_false h3
      cases hb : bfOn f with
      | true => exact se_bf hb o (blt_ok h2).1 (blt_ok h2).2 h4 (sEs es o _ h5)
      | false =>
        rw [hb] at h6
        cases f with
        | list => exact se_list o (blt_ok h2).1 (blt_ok h2).2 h4 (sEs es o _ h5)
        | _ => cases h6
    · cases h
  | .isi a t, c, X, o, x, h => by
    simp only [mE] at h
    split at h
    · rename_i f y ty hy
      obtain ⟨p, q, r, rfl⟩ := asIsi_eq hy
      (simp only [Bool.and_eq_true, decide_eq_true_eq] at h)
      (obtain ⟨⟨⟨⟨⟨⟨h1, h2⟩, h3⟩, h4⟩, h5⟩, h6⟩, h7⟩ := h)
      subst h1
      exact se_isi (by rintro rfl; cases h2) h3 o (blt_ok h4).1 (blt_ok h4).2 (blt_ok h5).1 (blt_ok h5).2 h6 (sE a o _ h7)
    · cases h
  | .mth m a es, c, X, o, x, h => by
    simp only [mE] at h
    split at h
    · rename_i y nm xs hy
      obtain ⟨p, q, rfl, hl⟩ := asMth_eq hy
      (simp only [Bool.and_eq_true, decide_eq_true_eq] at h)
      (obtain ⟨⟨⟨⟨⟨⟨h1, h2⟩, h3⟩, h4⟩, h5⟩, h6⟩, h7⟩ := h)
      subst h1
      have s1 := sE a o _ h6
      have s2 := sEs es o _ h7
      rw [Bool.or_eq_true] at h2
      rcases h2 with h2 | h2
      · have z := se_mth h2 h3 hl h4 h5 (mEs_nil h7) s1 s2
        cases m <;> first | exact z | cases h2
      · rw [Bool.and_eq_true] at h2
        cases m <;> first | cases h2.1 | skip
        cases xs with
        | nil => cases h2.2
        | cons e0 xs => exact se_tidx h3 hl h4 h5 s1 s2
    · cases h
  | .lc t it d e, c, X, o, x, h => by
    simp only [mE] at h
    split at h
    · rename_i elt tg iter ifs scope hy
      obtain ⟨p, rfl⟩ := asLc_eq hy
      (simp only [Bool.and_eq_true] at h)
      obtain ⟨⟨⟨⟨⟨h1, h2⟩, h3⟩, h4⟩, h5⟩, h6⟩ := h
      refine SE.plain (tF_val (se_lcF (pt := evE F G d) (pe := evE F G e) (tt := fun _ _ _ => True) o.calm o.nd (sI it o _ _ h2) (blkOk_by (by rw [o.hN, o.sc]; exact h1)) (own_snd t) (fun s H C cl fp => st_ok o.blk h4) (fun s H C cl fp => ?_) (fun s H C cl fp => (sE e o.blk _ h5).v) (plain_fold h3 _)) fun ρ h d h' e => lc_lst _ _ _ _ e) (fun _ => rfl)
      split at h6
      · cases d with
        | miss => exact ⟨fun pins s σ H Q I ⟨ρ, h, J, re, rh, q⟩ => pts_nil.run pins s σ H Q I (q J H true Ext.refl rh rfl)⟩
        | _ => cases h6
      · exact pts_one (sE d o.blk _ h6).t
      · cases h6
    · cases h
  | .tenum a, c, X, o, x, h => by
    simp only [mE] at h
    split at h
    · rename_i f g y hy
      obtain ⟨p, q, r, s, rfl⟩ := asTenum_eq hy
      (simp only [Bool.and_eq_true, decide_eq_true_eq] at h)
      obtain ⟨⟨⟨⟨⟨h1, h2⟩, h3⟩, h4⟩, h5⟩, h6⟩ := h
      subst h1 h2
      exact se_tenum o (blt_ok h3).1 (blt_ok h3).2 (blt_ok h4).1 (blt_ok h4).2 h5 (sE a o _ h6)
    · cases h
theorem sF : ∀ (t : E) {c : Cs} {X : Cx} (o : Ok c F G X) (x : Expr), mF c t x = true → SF X x (evE F G t).v
  | .lst es, c, X, o, x, h => by
    simp only [mF] at h
    split at h
    · rename_i y hy
      obtain ⟨p, rfl⟩ := asLst_eq hy
      exact ⟨se_lstF (sEs es o _ h), fun _ => rfl⟩
    · cases h
  | .bf .list es, c, X, o, x, h => by
    simp only [mF] at h
    split at h
    · rename_i y xs hy
      obtain ⟨p, q, rfl⟩ := asCall_eq hy
      simp only [Bool.and_eq_true, decide_eq_true_eq, Bool.not_eq_true'] at h
      obtain ⟨⟨⟨⟨h1, h2⟩, h3⟩, h4⟩, h5⟩ := h
      subst h1
      obtain ⟨e, es', rfl⟩ := isEmpty_cons_false h3
      exact ⟨se_listF o (blt_ok h2).1 (blt_ok h2).2 h4 (sEs es o _ h5), fun _ => rfl⟩
    · cases h
  | .lc t it d e, c, X, o, x, h => by
    simp only [mF] at h
    split at h
    · rename_i elt tg iter ifs scope hy
      obtain ⟨p, rfl⟩ := asLc_eq hy
      (simp only [Bool.and_eq_true] at h)
      obtain ⟨⟨⟨⟨⟨h1, h2⟩, h3⟩, h4⟩, h5⟩, h6⟩ := h
      refine ⟨se_lcF (pt := evE F G d) (pe := evE F G e) (tt := fun _ _ _ => True) o.calm o.nd (sI it o _ _ h2) (blkOk_by (by rw [o.hN, o.sc]; exact h1)) (own_snd t) (fun s H C cl fp => st_ok o.blk h4) (fun s H C cl fp => ?_) (fun s H C cl fp => (sE e o.blk _ h5).v) (plain_fold h3 _), fun _ => rfl⟩
      split at h6
      · cases d with
        | miss => exact ⟨fun pins s σ H Q I ⟨ρ, h, J, re, rh, q⟩ => pts_nil.run pins s σ H Q I (q J H true Ext.refl rh rfl)⟩
        | _ => cases h6
      · exact pts_one (sE d o.blk _ h6).t
      · cases h6
    · cases h
  | .var _, _, _, _, _, h => by cases h
  | .con _, _, _, _, _, h => by cases h
  | .glo _, _, _, _, _, h => by cases h
  | .miss, _, _, _, _, h => by cases h
  | .tup _, _, _, _, _, h => by cases h
  | .ftup _, _, _, _, _, h => by cases h
  | .new _, _, _, _, _, h => by cases h
  | .dic0, _, _, _, _, h => by cases h
  | .bin _ _ _, _, _, _, _, h => by cases h
  | .neg _, _, _, _, _, h => by cases h
  | .cmp _ _ _, _, _, _, _, h => by cases h
  | .chain _ _ _ _ _, _, _, _, _, h => by cases h
  | .and _ _, _, _, _, _, h => by cases h
  | .or _ _, _, _, _, _, h => by cases h
  | .not _, _, _, _, _, h => by cases h
  | .ite _ _ _, _, _, _, _, h => by cases h
  | .idx _ _, _, _, _, _, h => by cases h
  | .slc _ _ _, _, _, _, _, h => by cases h
  | .call _ _, _, _, _, _, h => by cases h
  | .callK _ _ _ _, _, _, _, _, h => by cases h
  | .isi _ _, _, _, _, _, h => by cases h
  | .tenum _, _, _, _, _, h => by cases h
  | .mth _ _ _, _, _, _, _, h => by cases h
  | .bf .len _, _, _, _, _, h => by cases h
  | .bf .int _, _, _, _, _, h => by cases h
  | .bf .abs _, _, _, _, _, h => by cases h
  | .bf .tuple _, _, _, _, _, h => by cases h
  | .bf .max2 _, _, _, _, _, h => by cases h
  | .bf .min2 _, _, _, _, _, h => by cases h
  | .bf .sum _, _, _, _, _, h => by cases h
  | .bf .all _, _, _, _, _, h => by cases h
  | .bf .any _, _, _, _, _, h => by cases h
  | .bf .sorted _, _, _, _, _, h => by cases h
  | .bf .repr _, _, _, _, _, h => by cases h
theorem sEs : ∀ (t : Es) {c : Cs} {X : Cx} (o : Ok c F G X) (xs : List Expr), mEs c t xs = true → SEs X xs (evEs F G t)
  | .nil, c, X, o, [], h => ses_nil
  | .nil, c, X, o, _ :: _, h => by cases h
  | .cons _ _, c, X, o, [], h => by cases h
  | .cons e es, c, X, o, x :: xs, h => by
    simp only [mEs, Bool.and_eq_true] at h
    exact ses_cons h.1.1 (sE e o _ h.1.2) (sEs es o _ h.2)
theorem sI : ∀ (t : I) {c : Cs} {X : Cx} (o : Ok c F G X) (tg x : Expr), mI c t tg x = true → PI X tg x (tI X.K (evI F G t))
  | .ev e, c, X, o, tg, x, h => pi_any (sE e o x h).v
  | .rng n, c, X, o, tg, x, h => by
    simp only [mI] at h
    split at h
    · rename_i f y hy
      obtain ⟨p, q, rfl⟩ := asCall_eq hy
      (simp only [Bool.and_eq_true, decide_eq_true_eq] at h)
      (obtain ⟨⟨⟨h1, h2⟩, h3⟩, h4⟩ := h)
      subst h1
      exact pi_rng (glb_ok o (blt_ok h2).2).1 (o.blt _ (blt_ok h2).1) h3 (sE n o _ h4)
    · cases h
  | .rng2 a b, c, X, o, tg, x, h => by
    simp only [mI] at h
    split at h
    · rename_i f y z hy
      obtain ⟨p, q, rfl⟩ := asCall_eq hy
      (simp only [Bool.and_eq_true, decide_eq_true_eq] at h)
      obtain ⟨⟨⟨⟨⟨h1, h2⟩, h3⟩, h4⟩, h5⟩, h6⟩ := h
      subst h1
      exact pi_rng2 (glb_ok o (blt_ok h2).2).1 (o.blt _ (blt_ok h2).1) h3 h4 (sE a o _ h5) (sE b o _ h6)
    · cases h
  | .zip a b, c, X, o, tg, x, h => by
    simp only [mI] at h
    split at h
    · rename_i f y z hy
      obtain ⟨p, q, rfl⟩ := asCall_eq hy
      (simp only [Bool.and_eq_true, decide_eq_true_eq] at h)
      (obtain ⟨⟨⟨⟨⟨⟨h1, h2⟩, h3⟩, h4⟩, h5⟩, h6⟩, h7⟩ := h)
      subst h1
      cases ht : asTup tg with
      | none => rw [ht] at h7; cases h7
      | some es =>
        obtain ⟨k, tp, rfl⟩ := asTup_eq ht
        exact pi_zipS (glb_ok o (blt_ok h2).2).1 (o.blt _ (blt_ok h2).1) h3 h4 (sE a o _ h5) (sE b o _ h6)
    · cases h
  | .enum _, c, X, o, tg, x, h => by cases h
end
end
end PV
end

section
set_option maxRecDepth 100000
namespace PV
open L2 PySem PySem.Spec PyProof.Rows

/-! ### what is wanted behind a statement -/
def PostS (K : PySem.W.Frag) (J : Jn) (H : Hp) (r : RS) (D : Ends) : Prop := match r with
  | .nxt ρ h => ∀ J' H' σ, Ext J H J' H' → RE K J' H' ρ σ → RH K J' h H' → D.nx σ H'
  | .brk ρ h => ∀ J' H' σ, Ext J H J' H' → RE K J' H' ρ σ → RH K J' h H' → D.bk σ H'
  | .cnt ρ h => ∀ J' H' σ, Ext J H J' H' → RE K J' H' ρ σ → RH K J' h H' → D.ct σ H'
  | .ret d h => ∀ J' H' v, Ext J H J' H' → RH K J' h H' → RD K J' H' d v → D.rt v H'
  | _ => False
def tS (K : PySem.W.Frag) (f : Env → Hh → RS) : TS := fun D σ H => ∃ ρ h J, RE K J H ρ σ ∧ RH K J h H ∧ PostS K J H (f ρ h) D
section
variable {K : PySem.W.Frag} {J J' : Jn} {H H' : Hp} {h h' : Hh} {ρ : Env} {σ : L2.St} {α β : Type} {D : Ends}
theorem PostS.ext {r : RS} (rh : RH K J h H) (rh' : RH K J' h' H') (e : Ext J H J' H') (p : PostS K J H r D) : PostS K J' H' r D := by
  cases r with
  | nxt ρ h2 => exact fun J2 H2 s e2 re2 rh2 => p J2 H2 s (e.trans rh rh' e2) re2 rh2
  | brk ρ h2 => exact fun J2 H2 s e2 re2 rh2 => p J2 H2 s (e.trans rh rh' e2) re2 rh2
  | cnt ρ h2 => exact fun J2 H2 s e2 re2 rh2 => p J2 H2 s (e.trans rh rh' e2) re2 rh2
  | ret d h2 => exact fun J2 H2 s e2 rh2 rd => p J2 H2 s (e.trans rh rh' e2) rh2 rd
  | bad => exact p
  | err _ _ => exact p
theorem PostS.step {R1 : RelA α β} {f : Env → Hh → R α} {g : α → Hh → RS} (re : RE K J H ρ σ) (rh : RH K J h H) (p : PostS K J H ((f ρ h).then_ g) D) :
    tG K R1 f σ H (fun b H1 => ∃ J1 h1 a, Ext J H J1 H1 ∧ RE K J1 H1 ρ σ ∧ RH K J1 h1 H1 ∧ R1 J1 H1 a b ∧ PostS K J1 H1 (g a h1) D) := by
  refine ⟨ρ, h, J, re, rh, ?_⟩
  cases q : f ρ h with
  | ok a h1 =>
    rw [q] at p
    exact fun J1 H1 b e rh1 rl => ⟨J1, h1, a, e, re.ext e, rh1, rl, PostS.ext rh rh1 e p⟩
  | bad => rw [q] at p; exact p
  | err _ _ => rw [q] at p; exact p
theorem PostS.seq {r : RS} {g : Env → Hh → RS} (rh : RH K J h H) (p : PostS K J H (r.then_ g) D) : PostS K J H r { D with nx := tS K g D } := by
  cases r with
  | nxt ρ h2 => exact fun J2 H2 s e2 re2 rh2 => ⟨ρ, h2, J2, re2, rh2, PostS.ext rh rh2 e2 p⟩
  | brk ρ h2 => exact p
  | cnt ρ h2 => exact p
  | ret d h2 => exact p
  | bad => exact p
  | err _ _ => exact p

/-! ### objects let go -/
abbrev Jn.cut (J : Jn) (n : Nat) : Jn := ⟨J.l.take n, J.z⟩
mutual
theorem RD.cut {n : Nat} : ∀ {d : PV.D} {v : V}, d.rlt n = true → RD K J H d v → RD K (J.cut n) H d v
  | _, _, _, .non => .non
  | _, _, _, .bl b => .bl b
  | _, _, _, .int i => .int i
  | _, _, _, .str x => .str x
  | _, _, h, .tup a m q z r => .tup (fun hm => a (List.mem_of_mem_take hm)) m q z (RDs.cut h r)
  | _, _, h, .ktup k z r => .ktup k z (RDs.cut h r)
  | _, _, h, .lst a m q z r => .lst (fun hm => a (List.mem_of_mem_take hm)) m q z (RDs.cut h r)
  | _, _, h, .ref q => .ref (by
      have h : decide (_ < n) = true := h
      have := of_decide_eq_true h
      show (J.l.take n)[_]? = _
      rw [List.getElem?_take_of_lt this]; exact q)
  | _, _, h, .fz a m q z r => .fz (fun hm => a (List.mem_of_mem_take hm)) m q z (RDs.cut h r)
  | _, _, h, .kfz k z r => .kfz k z (RDs.cut h r)
  | _, _, h, .ft a m q c d z r => .ft (fun hm => a (List.mem_of_mem_take hm)) m q c d z (RDs.cut h r)
theorem RDs.cut {n : Nat} : ∀ {ds : List PV.D} {vs : List V}, PV.D.rlts n ds = true → RDs K J H ds vs → RDs K (J.cut n) H ds vs
  | _, _, _, .nil => .nil
  | _, _, h, .cons r t => by
    simp only [PV.D.rlts, Bool.and_eq_true] at h
    exact .cons (RD.cut h.1 r) (RDs.cut h.2 t)
end
theorem paired_all {γ δ : Type} {Q Q' : γ → δ → Prop} {f : γ → Bool} (hf : ∀ p q, f p = true → Q p q → Q' p q) : ∀ {xs : List γ} {ys : List δ}, xs.all f = true → Paired Q xs ys → Paired Q' xs ys
  | _, _, _, .nil => .nil
  | _, _, h, .cons x t => by
    (simp only [List.all_cons, Bool.and_eq_true] at h)
    exact .cons (hf _ _ h.1 x) (paired_all hf h.2 t)
theorem RO.cut {n : Nat} {o : O} {u : HO} (h : o.rlt n = true) (r : RO K J H o u) : RO K (J.cut n) H o u := by
  cases r with
  | lst z r => exact .lst z (r.cut h)
  | @dct kvs kws z r =>
    have h : (kvs.all fun p : Key × PV.D => p.2.rlt n) = true := h
    exact .dct z (paired_all (fun p q hp x => ⟨x.1, x.2.cut hp⟩) h r)
theorem RH.cut {n : Nat} (hn : n ≤ h.length) (hr : Hh.rlt (h.take n) n = true) (rh : RH K J h H) : RH K (J.cut n) (h.take n) H where
  nd := (List.take_sublist n J.l).nodup rh.nd
  len := by show (J.l.take n).length = _; rw [List.length_take, List.length_take, rh.len]
  obj := fun i o e => by
    have hi : i < n := by
      have := (List.getElem?_eq_some_iff.mp e).1
      simp at this; omega
    have e' : h[i]? = some o := by rw [List.getElem?_take_of_lt hi] at e; exact e
    obtain ⟨a, u, h1, h2, h3⟩ := rh.obj i o e'
    refine ⟨a, u, by show (J.l.take n)[i]? = _; rw [List.getElem?_take_of_lt hi]; exact h1, h2, h3.cut ?_⟩
    exact List.all_eq_true.mp hr o (List.mem_of_getElem? e)
  apart := fun a ha hm => rh.apart a ha (List.mem_of_mem_take hm)
  zed := rh.zed
theorem kill_get : ∀ {ks : List Nat} {ρ : Env} {i : Nat} {d : PV.D}, (kill ks ρ)[i]? = some (some d) → ρ[i]? = some (some d)
  | [], _, _, _, e => e
  | k :: ks, ρ, i, d, e => by
    have := kill_get (ks := ks) e
    by_cases hj : k = i
    · subst hj
      by_cases hl : k < ρ.length
      · rw [List.getElem?_set_self hl] at this; cases this
      · rw [List.getElem?_eq_none (by simpa using hl)] at this; cases this
    · rwa [List.getElem?_set_ne hj] at this
theorem kill_len : ∀ {ks : List Nat} {ρ : Env}, (kill ks ρ).length = ρ.length
  | [], _ => rfl
  | k :: ks, ρ => by show (kill ks _).length = _; rw [kill_len, List.length_set]
theorem RE.cut {n : Nat} {ks : List Nat} (hr : Env.rlt n (kill ks ρ) = true) (re : RE K J H ρ σ) : RE K (J.cut n) H (kill ks ρ) σ := by
  refine ⟨by rw [kill_len]; exact re.len, fun i d q => ?_⟩
  obtain ⟨v, h1, h2⟩ := re.get i d (kill_get q)
  exact ⟨v, h1, h2.cut (List.all_eq_true.mp hr (some d) (List.mem_of_getElem? q))⟩
theorem Ext.cut (rh : RH K J h H) (e : Ext J H J' H') : Ext J H (J'.cut h.length) H' := by
  obtain ⟨m, hm, _⟩ := e.pre
  refine ⟨e.z, ⟨[], ?_, by simp⟩, e.keep⟩
  show J'.l.take h.length = J.l ++ []
  rw [hm, ← rh.len, List.take_left, List.append_nil]
theorem PostS.gc {r : RS} {ks : List Nat} (rh : RH K J h H) (p : PostS K J H (gcS ks h.length r) D) : PostS K J H r D := by
  have hle : ∀ {J' : Jn} {H' : Hp} {h' : Hh}, Ext J H J' H' → RH K J' h' H' → h.length ≤ h'.length := fun e rh' => by
    obtain ⟨m, hm, _⟩ := e.pre
    rw [← rh'.len, ← rh.len, hm, List.length_append]; omega
  cases r with
  | nxt ρ h2 =>
    simp only [gcS] at p
    split at p
    · rename_i hc
      (simp only [Bool.and_eq_true] at hc)
      exact fun J2 H2 s e2 re2 rh2 => p _ H2 s (e2.cut rh) (re2.cut hc.1) (rh2.cut (hle e2 rh2) hc.2)
    · exact p.elim
  | brk ρ h2 =>
    simp only [gcS] at p
    split at p
    · rename_i hc
      (simp only [Bool.and_eq_true] at hc)
      exact fun J2 H2 s e2 re2 rh2 => p _ H2 s (e2.cut rh) (re2.cut hc.1) (rh2.cut (hle e2 rh2) hc.2)
    · exact p.elim
  | cnt ρ h2 =>
    simp only [gcS] at p
    split at p
    · rename_i hc
      (simp only [Bool.and_eq_true] at hc)
      exact fun J2 H2 s e2 re2 rh2 => p _ H2 s (e2.cut rh) (re2.cut hc.1) (rh2.cut (hle e2 rh2) hc.2)
    · exact p.elim
  | ret d h2 => exact p
  | bad => exact p
  | err _ _ => exact p
end

/-! ### the statements -/
section
variable {X : Cx} {e x a b : Expr} {st : Stmt} {p pa pb pc : P} {pos pos' : Pos}
theorem ss_nil : PSs X [] (tS X.K fun ρ h => .nxt ρ h) := pss_nil.imp fun D σ H ⟨ρ, h, J, re, rh, q⟩ => q J H σ Ext.refl re rh
theorem ss_cons {sts : List Stmt} {f g : Env → Hh → RS} (h1 : PS X st (tS X.K f)) (h2 : PSs X sts (tS X.K g)) : PSs X (st :: sts) (tS X.K fun ρ h => (f ρ h).then_ g) :=
  (pss_cons h1 h2).imp fun D σ H ⟨ρ, h, J, re, rh, q⟩ => ⟨ρ, h, J, re, rh, q.seq rh⟩
def notComp : Expr → Bool
  | .ListComp .. => false
  | .SetComp .. => false
  | .DictComp .. => false
  | _ => true
theorem swaps_not {t : Option Expr} {l : Nat} {env : PySem.Env} (h : notComp e = true) : swapsWith e t l env = pure false := by cases e <;> first | rfl | cases h
/-- the value of an assignment to a name: no comprehension, or the name is a cell -/
def mayAsg (c : Bool) : Expr → Bool
  | .ListComp .. => c
  | e => notComp e
theorem swaps_may {y : Str} {py : Pos} {l : Nat} {env : PySem.Env} {e : Expr} {c : Bool} (hc : c = true → env.scope.names.lookup y = some .cell) (h : mayAsg c e = true) : swapsWith e (some (.Name y py)) l env = pure false := by
  cases e with
  | ListComp elt gs sc pos =>
    have k : env.kindOf y = some .cell := hc h
    unfold swapsWith
    simp only [k]
    have : (some NameKind.cell == some NameKind.local) = false := rfl
    rw [this]
    simp only [Bool.and_false, Bool.false_and] <;> rfl
  | _ => first | rfl | cases h
theorem ss_asg {i : Nat} {y : Str} {c : Bool} (hN : X.N.Nodup) (hi : X.N[i]? = some y) (hx : L2.Loc X.env.scope y) (hf : X.fn y = true ∨ X.env.scope.names.lookup y = some .local) (hc : c = true → X.env.scope.names.lookup y = some .cell) (hn : mayAsg c e = true) (he : SE X e p) :
    PS X (.Assign [.Name y pos'] e pos) (tS X.K fun ρ h => (p.v ρ h).then_ fun x h1 => .nxt (ρ.set i (some x)) h1) :=
  (ps_set hN hi hx he.v (swaps_may hc hn) hf).imp fun D σ H ⟨ρ, h, J, re, rh, q⟩ => (PostS.step (R1 := rD X.K) (f := p.v) re rh q).mono fun x H1 ⟨J1, h1, dx, e1, re1, rh1, rx, q1⟩ => q1 J1 H1 _ Ext.refl (re1.set i rx) rh1
theorem ss_exp (hn : notComp e = true) (he : SE X e p) : PS X (.Expr e pos) (tS X.K fun ρ h => (p.v ρ h).then_ fun _ h1 => .nxt ρ h1) :=
  (ps_expr he.v (swaps_not hn)).imp fun D σ H ⟨ρ, h, J, re, rh, q⟩ => (PostS.step (R1 := rD X.K) (f := p.v) re rh q).mono fun x H1 ⟨J1, h1, dx, e1, re1, rh1, rx, q1⟩ => q1 J1 H1 _ Ext.refl re1 rh1
theorem ss_ret (he : SE X e p) : PS X (.Return (some e) pos) (tS X.K fun ρ h => (p.v ρ h).then_ fun x h1 => .ret x h1) :=
  (ps_ret he.v).imp fun D σ H ⟨ρ, h, J, re, rh, q⟩ => (PostS.step (R1 := rD X.K) (f := p.v) re rh q).mono fun x H1 ⟨J1, h1, dx, e1, re1, rh1, rx, q1⟩ => q1 J1 H1 _ Ext.refl rh1 rx
theorem ss_retN : PS X (.Return none pos) (tS X.K fun _ h => .ret .non h) := ps_retN.imp fun D σ H ⟨ρ, h, J, re, rh, q⟩ => q J H _ Ext.refl rh .non
theorem ss_pass : PS X (.Pass pos) (tS X.K fun ρ h => .nxt ρ h) := ps_pass.imp fun D σ H ⟨ρ, h, J, re, rh, q⟩ => q J H σ Ext.refl re rh
theorem ss_brk : PS X (.Break pos) (tS X.K fun ρ h => .brk ρ h) := ps_break.imp fun D σ H ⟨ρ, h, J, re, rh, q⟩ => q J H σ Ext.refl re rh
theorem ss_cnt : PS X (.Continue pos) (tS X.K fun ρ h => .cnt ρ h) := ps_continue.imp fun D σ H ⟨ρ, h, J, re, rh, q⟩ => q J H σ Ext.refl re rh
theorem ss_if {as bs : List Stmt} {f g : Env → Hh → RS} (hc : SE X e p) (ha : PSs X as (tS X.K f)) (hb : PSs X bs (tS X.K g)) : PS X (.If e as bs pos) (tS X.K fun ρ h => (p.t ρ h).then_ fun t h1 => if t then f ρ h1 else g ρ h1) :=
  (ps_if hc.t ha hb).imp fun D σ H ⟨ρ, h, J, re, rh, q⟩ => (PostS.step (R1 := rB) (f := p.t) re rh q).mono fun x H1 ⟨J1, h1, t, e1, re1, rh1, rx, q1⟩ => by
    have rx : t = x := rx
    subst rx
    cases t with
    | true => exact ⟨ρ, h1, J1, re1, rh1, q1⟩
    | false => exact ⟨ρ, h1, J1, re1, rh1, q1⟩
theorem ss_whl {body : List Stmt} {f : Env → Hh → RS} (hx : X.xe = fun _ _ => False) (hc : SE X e p) (hb : PSs X body (tS X.K f)) : PS X (.While e body [] pos) (tS X.K fun ρ h => whlLoop p.t f wfuel ρ h) := by
  refine (ps_while (by rw [hx]; exact PassesOwn.never) hc.t hb).imp fun D σ H ⟨ρ, h, J, re, rh, q⟩ => ?_
  refine ⟨fun m σ H => ∃ ρ h J, RE X.K J H ρ σ ∧ RH X.K J h H ∧ PostS X.K J H (whlLoop p.t f m ρ h) D, ⟨wfuel, ρ, h, J, re, rh, q⟩, ?_⟩
  clear q re rh
  rintro m σ H ⟨ρ, h, J, re, rh, q⟩
  cases m with
  | zero => exact False.elim q
  | succ m =>
    refine (PostS.step (R1 := rB) (f := p.t) re rh q).mono fun x H1 ⟨J1, h1, t, e1, re1, rh1, rx, q1⟩ => ?_
    have rx : t = x := rx
    subst rx
    cases t with
    | false => exact q1 J1 H1 _ Ext.refl re1 rh1
    | true =>
      simp only [if_true] at q1 ⊢
      refine ⟨fun σ' H' => ∃ ρ h J, RE X.K J H' ρ σ' ∧ RH X.K J h H' ∧ PostS X.K J H' (whlLoop p.t f m ρ h) D, fun σ' H' z => ⟨m, Nat.lt_succ_self m, z⟩, ρ, h1, J1, re1, rh1, ?_⟩
      cases ef : f ρ h1 with
      | nxt ρ' h' => rw [ef] at q1; exact fun J2 H2 s e2 re2 rh2 => ⟨ρ', h', J2, re2, rh2, PostS.ext rh1 rh2 e2 q1⟩
      | cnt ρ' h' => rw [ef] at q1; exact fun J2 H2 s e2 re2 rh2 => ⟨ρ', h', J2, re2, rh2, PostS.ext rh1 rh2 e2 q1⟩
      | brk ρ' h' => rw [ef] at q1; exact q1
      | ret d h' => rw [ef] at q1; exact q1
      | bad => rw [ef] at q1; exact q1
      | err _ _ => rw [ef] at q1; exact q1
theorem ss_for {tg iter : Expr} {body : List Stmt} {t : Tg} {fi : Env → Hh → R Src} {f : Env → Hh → RS} (hx : X.xe = fun _ _ => False) (hc : X.calm = true) (hi : PI X tg iter (tI X.K fi)) (hg : ST X tg t t.slots) (hb : PSs X body (tS X.K f)) (hp : plainX iter = true) :
    PS X (.For tg iter body [] pos) (tS X.K fun ρ h => (fi ρ h).then_ fun s h1 => forLoop s.good t f s.items ρ h1) := by
  refine (ps_for (by rw [hx]; exact PassesOwn.never) hc hi hg.run hb (plain_fold hp _)).imp fun D σ H ⟨ρ, h, J, re, rh, q⟩ => ?_
  refine ⟨ρ, h, J, re, rh, ?_⟩
  dsimp only at q
  cases ev : fi ρ h with
  | bad => rw [ev] at q; exact q
  | err _ _ => rw [ev] at q; exact q
  | ok src h1 =>
    rw [ev, R.then_ok] at q
    intro J1 H1 it e1 rh1 itok
    let W : Nat → Nat → L2.St → Hp → Prop := fun i m σ H2 => m = src.items.length - i ∧ i ≤ src.items.length ∧ ∃ ρ2 h2 J2, RE X.K J2 H2 ρ2 σ ∧ RH X.K J2 h2 H2 ∧ Sub J1 H1 J2 H2 ∧ PostS X.K J2 H2 (forLoop src.good t f (src.items.drop i) ρ2 h2) D
    refine ⟨W, ⟨src.items.length, by simp, Nat.zero_le _, ρ, h1, J1, re.ext e1, rh1, Sub.refl, PostS.ext rh rh1 e1 q⟩, fun i m σ H2 hW => ?_⟩
    clear q
    obtain ⟨rfl, hi', ρ2, h2, J2, re2, rh2, s2, q⟩ := hW
    cases hd : src.items[i]? with
    | none =>
      have hlen : i = src.items.length := by have := List.getElem?_eq_none_iff.mp hd; omega
      subst hlen
      rw [List.drop_eq_nil_of_le (Nat.le_refl _)] at q
      unfold forLoop at q
      split at q
      · rename_i hgood
        exact .inl ⟨itok.stop s2 rh2 hgood, q J2 H2 σ Ext.refl re2 rh2⟩
      · exact False.elim q
    | some d =>
      have hlt : i < src.items.length := (List.getElem?_eq_some_iff.mp hd).1
      rw [List.drop_eq_getElem_cons hlt] at q
      have hde : src.items[i] = d := by rw [List.getElem?_eq_getElem hlt] at hd; exact Option.some.inj hd
      rw [hde] at q
      unfold forLoop at q
      cases hgood : src.good h2 with
      | false => rw [hgood] at q; exact False.elim q
      | true =>
        rw [hgood] at q
        simp only [if_true] at q
        obtain ⟨g1, g2⟩ := itok.go s2 rh2 hgood hd
        refine .inr ⟨g1, fun σ' H' => ∃ m', m' < src.items.length - i ∧ W (i + 1) m' σ' H', fun σ' H' z => z, fun xv H3 y3 => ?_⟩
        obtain ⟨e3, rh3, rd3⟩ := g2 xv H3 y3
        cases ht2 : t.put d ρ2 with
        | none => simp only [ht2] at q; exact False.elim q
        | some ρ' =>
          simp only [ht2] at q
          have q := PostS.ext rh2 rh3 e3 q
          refine ⟨ρ2, ρ', h2, J2, d, re2.ext e3, rh3, rd3, ht2, fun σ2 re4 hk hl => ⟨ρ', h2, J2, re4, rh3, ?_⟩⟩
          have again : ∀ {ρ5 : Env} {h5 : Hh}, PostS X.K J2 H3 (forLoop src.good t f (src.items.drop (i + 1)) ρ5 h5) D → ∀ J5 H5 σ5, Ext J2 H3 J5 H5 → RE X.K J5 H5 ρ5 σ5 → RH X.K J5 h5 H5 → ∃ m', m' < src.items.length - i ∧ W (i + 1) m' σ5 H5 :=
            fun {ρ5 h5} q5 J5 H5 σ5 e5 re5 rh5 => ⟨_, by omega, rfl, hlt, ρ5, h5, J5, re5, rh5, (s2.trans e3.sub).trans e5.sub, PostS.ext rh3 rh5 e5 q5⟩
          cases ef : f ρ' h2 with
          | nxt ρ5 h5 => rw [ef] at q; exact again q
          | cnt ρ5 h5 => rw [ef] at q; exact again q
          | brk ρ5 h5 => rw [ef] at q; exact q
          | ret d h' => rw [ef] at q; exact q
          | bad => rw [ef] at q; exact q
          | err _ _ => rw [ef] at q; exact q
end
end PV
end

section
set_option maxRecDepth 100000
namespace PV
open L2 PySem PySem.Spec PyProof.Rows
section
variable {X : Cx} {e x a b : Expr} {st : Stmt} {p pa pb pc : P} {pos pos' : Pos}

/-! ### several names at once -/
theorem ss_unp {es : List Expr} {is : List Nat} {k : Nat} {tp : Pos} (hc : X.calm = true) (hs : STs X es is) (hn : notComp e = true) (ht : asTup e = none) (he : SE X e p) :
    PS X (.Assign [.Tuple es k tp] e pos) (tS X.K fun ρ h => (p.v ρ h).then_ fun x h1 => RS.opt ((Tg.tu is).put x ρ) h1) := by
  refine (ps_asg he.v (st_tu hc hs).run ?_ ?_).imp fun D σ H ⟨ρ, h, J, re, rh, q⟩ => ?_
  · unfold swapsWithSole
    exact swaps_not hn
  · cases e <;> first | rfl | cases ht
  refine (PostS.step (R1 := rD X.K) (f := p.v) re rh q).mono fun x H1 ⟨J1, h1, dx, e1, re1, rh1, rx, q1⟩ => ?_
  cases hp : (Tg.tu is).put dx ρ with
  | none => rw [hp] at q1; exact False.elim q1
  | some ρ' => rw [hp] at q1; exact ⟨ρ, ρ', h1, J1, dx, re1, rh1, rx, hp, fun σ' re' _ _ => q1 J1 H1 σ' Ext.refl re' rh1⟩
/-- two names from two values: the stores are swapped -/
theorem swapped_two {x y : Str} {px py tp vp : Pos} {k k2 : Nat} {env : PySem.Env} (hk : env.scope.kind = .function) (hx : env.scope.names.lookup x = some .local) (hy : env.scope.names.lookup y = some .local) (hne : x ≠ y) (hl : (py.line == px.line) = true)
    (ha : plainX a = true) (hb : plainX b = true) (hf : (foldedForSure 8 a && foldedForSure 8 b) = false) (hcn : (constantsAlone 8 a && constantsAlone 8 b) = false) :
    swappedStores [.Tuple [.Name x px, .Name y py] k tp] (.Tuple [a, b] k2 vp) env = pure (some [x, y]) := by
  have kx : env.kindOf x = some .local := hx
  (have ky : env.kindOf y = some .local := hy)
  have hbk : env.blockKind = .function := by unfold PySem.Env.blockKind; rw [hk]; rfl
  have h1 : ([a, b].any fun | .Starred .. => true | _ => false) = false := by
    cases a <;> first | (exfalso; cases ha; done) | (cases b <;> first | (exfalso; cases hb; done) | rfl)
  have h2 : [a, b].all (foldedForSure 8) = false := by simpa using hf
  have h3 : [a, b].all (constantsAlone 8) = false := by simpa using hcn
  have hl' : py.line = px.line := by simpa using hl
  have h5 : ([x, y] : List Str).eraseDups.length = 2 := by
    have h6 : (y == x) = false := by simpa using (Ne.symm hne)
    simp [List.eraseDups_cons, h6]
  unfold swappedStores
  simp only [hbk, h1, h2, h3, List.filterMap_cons, List.filterMap_nil, kx, ky, List.head?_cons, Option.map_some, Option.getD_some, Expr.pos, hl', beq_self_eq_true, Bool.and_self, if_true, h5]
  rw [if_neg (by simp), if_neg (fun hh => absurd (hh.symm.trans h1) (by decide)), if_neg (by simp), if_neg (by decide), if_neg (by decide)]
theorem ss_par {i j : Nat} {x y : Str} {px py tp vp : Pos} {k k2 : Nat} (hc : X.calm = true) (hN : X.N.Nodup) (hi : X.N[i]? = some x) (hj : X.N[j]? = some y) (hij : i ≠ j) (hk : X.env.scope.kind = .function)
    (hx : X.env.scope.names.lookup x = some .local) (hy : X.env.scope.names.lookup y = some .local) (hne : x ≠ y) (hl : (py.line == px.line) = true) (hpa : plainX a = true) (hpb : plainX b = true) (hf : (foldedForSure 8 a && foldedForSure 8 b) = false) (hcn : (constantsAlone 8 a && constantsAlone 8 b) = false)
    (ha : SE X a pa) (hb : SE X b pb) :
    PS X (.Assign [.Tuple [.Name x px, .Name y py] k tp] (.Tuple [a, b] k2 vp) pos) (tS X.K fun ρ h => (pa.v ρ h).then_ fun x h1 => (pb.v ρ h1).then_ fun y h2 => .nxt ((ρ.set i (some x)).set j (some y)) h2) := by
  refine (ps_par hc hN hi hj hij hx hy (pa_cons ha.v (pa_cons hb.v pa_nil (plain_star hpb _ _)) (plain_star hpa _ _)) (swapped_two hk hx hy hne hl hpa hpb hf hcn)).imp fun D σ H ⟨ρ, h, J, re, rh, q⟩ => ?_
  refine (PostS.step (R1 := rD X.K) (f := pa.v) re rh q).mono fun x H1 ⟨J1, h1, dx, e1, re1, rh1, rx, q1⟩ => ?_
  refine (PostS.step (R1 := rD X.K) (f := pb.v) re1 rh1 q1).mono fun y H2 ⟨J2, h2, dy, e2, re2, rh2, ry, q2⟩ => ?_
  exact ⟨x, y, rfl, q2 J2 H2 _ Ext.refl ((re2.set i (rx.ext e2)).set j ry) rh2⟩

/-! ### stores -/
theorem putD_rel {K : PySem.W.Frag} {J : Jn} {H : Hp} {kvs : List (Key × D)} {kws : List (Key × V)} {k : Key} {d : D} {v : V} (r : Paired (fun p q => p.1 = q.1 ∧ RD K J H p.2 q.2) kvs kws) (rv : RD K J H d v) :
    Paired (fun p q => p.1 = q.1 ∧ RD K J H p.2 q.2) (putD kvs k d) (putK kws k v) := by
  have ha : ∀ {kvs : List (Key × D)} {kws : List (Key × V)}, Paired (fun p q => p.1 = q.1 ∧ RD K J H p.2 q.2) kvs kws → (kvs.any fun kv => decide (kv.1 = k)) = kws.any fun kv => decide (kv.1 = k) := by
    intro kvs kws r
    induction r with
    | nil => rfl
    | cons x t ih => simp only [List.any_cons, ih, x.1]
  have hm : ∀ {kvs : List (Key × D)} {kws : List (Key × V)}, Paired (fun p q => p.1 = q.1 ∧ RD K J H p.2 q.2) kvs kws → Paired (fun p q => p.1 = q.1 ∧ RD K J H p.2 q.2) (kvs.map fun kv => if kv.1 = k then (kv.1, d) else kv) (kws.map fun kv => if kv.1 = k then (kv.1, v) else kv) := by
    intro kvs kws r
    induction r with
    | nil => exact .nil
    | @cons p q ps qs x t ih =>
      refine .cons ?_ ih
      dsimp only
      by_cases hk : p.1 = k
      · rw [if_pos hk, if_pos (x.1 ▸ hk)]; exact ⟨x.1, rv⟩
      · rw [if_neg hk, if_neg (x.1 ▸ hk)]; exact x
  have hap : ∀ {kvs : List (Key × D)} {kws : List (Key × V)}, Paired (fun p q => p.1 = q.1 ∧ RD K J H p.2 q.2) kvs kws → Paired (fun p q => p.1 = q.1 ∧ RD K J H p.2 q.2) (kvs ++ [(k, d)]) (kws ++ [(k, v)]) := by
    intro kvs kws r
    induction r with
    | nil => exact .cons ⟨rfl, rv⟩ .nil
    | cons x t ih => exact .cons x ih
  unfold putD putK
  rw [ha r]
  split
  · exact hm r
  · exact hap r
theorem putK_len {kws : List (Key × V)} {k : Key} {v : V} : (putK kws k v).length ≤ kws.length + 1 := by
  unfold putK
  split
  · rw [List.length_map]; omega
  · rw [List.length_append]; exact Nat.le_refl _
def rSto (K : PySem.W.Frag) : TSet := fun o i v H Q => ∃ J h do_ di dv h', RH K J h H ∧ RD K J H do_ o ∧ RD K J H di i ∧ RD K J H dv v ∧ stoOp do_ di dv h = some h' ∧ ∀ J' H', Ext J H J' H' → RH K J' h' H' → Q H'
theorem ps_stoR (hu : X.A.units + 1 < cLine) : PSet X (rSto X.K) := by
  intro pins s σ H o i v ov iv u Q I ro ri rv ⟨J, h, do_, di, dv, h', rh, r1, r2, r3, e, q⟩
  cases r1 with
  | @ref n a q1 =>
    obtain ⟨ob, w, h1, h2, h3⟩ := rh.at q1
    simp only [stoOp, h1] at e
    cases h3 with
    | @lst ds vs z rr =>
      cases r2 with
      | int k =>
        dsimp only at e
        split at e
        · rename_i j hj
          cases e
          rw [rr.length] at hj
          have r4 : RDs X.K J H (ds.set j dv) (vs.set j v) := rr.set j r3
          exact set_list pins s σ H _ _ v ov iv u Q I ro ri rv ⟨a, vs, k, j, rfl, rfl, h2, hj, q J _ (Ext.write q1) (rh.writeL q1 (by simpa using z) r4)⟩
        · cases e
      | _ => cases e
    | @dct kvs kws z rr =>
      dsimp only at e
      split at e
      · rename_i k hk
        split at e
        · rename_i hz
          cases e
          have hz' : kws.length + 1 ≤ sizeLine := by rw [← Paired.length rr]; exact size_of hz
          have hi := key_inv hk r2
          subst hi
          exact set_dict hu pins s σ H _ _ v ov iv u Q I ro ri rv ⟨a, _, rfl, .k h2 hz', q J _ (Ext.write q1) (rh.write q1 (.dct (Nat.le_trans putK_len hz') (Paired.mapP (putD_rel rr r3) fun p q x => ⟨x.1, x.2.ext (Ext.write q1)⟩)))⟩
        · cases e
      · cases e
  | _ => cases e
theorem ss_sto {o i : Expr} {po pi : P} {sp : Pos} (hu : X.A.units + 200 < cLine) (hn : plainX i = true) (ho : SE X o po) (hi : SE X i pi) (he : SE X e p) :
    PS X (.Assign [.Subscript o i sp] e pos) (tS X.K fun ρ h => (p.v ρ h).then_ fun x h1 => (po.v ρ h1).then_ fun y h2 => (pi.v ρ h2).then_ fun z h3 => match stoOp y z x h3 with
    | some h4 => .nxt ρ h4
    | none => .bad) := by
  refine (ps_asg he.v (pg_sub ho.v hi.v (ps_stoR (by omega)) ?_) ?_).imp fun D σ H ⟨ρ, h, J, re, rh, q⟩ => ?_
  · intro v; cases i <;> first | rfl | cases hn
  · cases e <;> rfl
  refine (PostS.step (R1 := rD X.K) (f := p.v) re rh q).mono fun x H1 ⟨J1, h1, dx, e1, re1, rh1, rx, q1⟩ => ?_
  refine (PostS.step (R1 := rD X.K) (f := po.v) re1 rh1 q1).mono fun y H2 ⟨J2, h2, dy, e2, re2, rh2, ry, q2⟩ => ?_
  refine (PostS.step (R1 := rD X.K) (f := pi.v) re2 rh2 q2).mono fun z H3 ⟨J3, h3, dz, e3, re3, rh3, rz, q3⟩ => ?_
  cases hs : stoOp dy dz dx h3 with
  | none => rw [hs] at q3; exact False.elim q3
  | some h4 =>
    rw [hs] at q3
    exact ⟨J3, h3, dy, dz, dx, h4, rh3, ry.ext e3, rz, (rx.ext e2).ext e3, hs, fun J4 H4 e4 rh4 => q3 J4 H4 σ e4 (re3.ext e4) rh4⟩
def rAug (K : PySem.W.Frag) (o : BOp) : TIp := fun x y H Q => ∃ J dx dy d, RD K J H dx x ∧ RD K J H dy y ∧ augOp o dx dy = some d ∧ ∀ v, RD K J H d v → Q v H
def augM : BOp → Operator → Bool
  | .add, .Add => true
  | .sub, .Sub => true
  | .fdiv, .FloorDiv => true
  | .mod, .Mod => true
  | _, _ => false
theorem augM_ok {o : BOp} {op : Operator} (h : augM o op = true) : PIp X op (rAug X.K o) := by
  unfold augM at h
  split at h
  · intro pins s σ H x y v u Q I rx ry ⟨J, dx, dy, d, r1, r2, e, q⟩
    simp only [augOp] at e
    split at e
    · cases e; cases r1; cases r2
      exact iop_add pins s σ H _ _ v u Q I rx ry ⟨_, _, rfl, rfl, q _ (.int _)⟩
    · cases r1; cases r2
      split at e
      · rename_i hz; cases e
        exact iop_add_str pins s σ H _ _ v u Q I rx ry ⟨_, _, rfl, rfl, size_of hz, q _ (.str _)⟩
      · cases e
    · cases e
  · intro pins s σ H x y v u Q I rx ry ⟨J, dx, dy, d, r1, r2, e, q⟩
    simp only [augOp] at e
    split at e
    · cases e; cases r1; cases r2
      exact iop_sub pins s σ H _ _ v u Q I rx ry ⟨_, _, rfl, rfl, q _ (.int _)⟩
    · cases e
  · intro pins s σ H x y v u Q I rx ry ⟨J, dx, dy, d, r1, r2, e, q⟩
    simp only [augOp] at e
    split at e
    · cases r1; cases r2
      split at e
      · rename_i hz; cases e
        exact iop_fdiv pins s σ H _ _ v u Q I rx ry ⟨_, _, rfl, rfl, hz, q _ (.int _)⟩
      · cases e
    · cases e
  · intro pins s σ H x y v u Q I rx ry ⟨J, dx, dy, d, r1, r2, e, q⟩
    simp only [augOp] at e
    split at e
    · cases r1; cases r2
      split at e
      · rename_i hz; cases e
        exact iop_mod pins s σ H _ _ v u Q I rx ry ⟨_, _, rfl, rfl, hz, q _ (.int _)⟩
      · cases e
    · cases e
  · cases h
theorem ss_aug {i : Nat} {y : Str} {o : BOp} {op : Operator} (hN : X.N.Nodup) (hi : X.N[i]? = some y) (hx : L2.Loc X.env.scope y) (hf : X.fn y = true ∨ X.env.scope.names.lookup y = some .local) (ho : augM o op = true) (he : SE X e p) :
    PS X (.AugAssign (.Name y pos') op e pos) (tS X.K fun ρ h => match ρ[i]? with
    | some (some x) => (p.v ρ h).then_ fun y h1 => match augOp o x y with
      | some z => .nxt (ρ.set i (some z)) h1
      | none => .bad
    | _ => .bad) := by
  refine (ps_aug hN hi hx he.v (augM_ok ho) hf).imp fun D σ H ⟨ρ, h, J, re, rh, q⟩ => ?_
  dsimp only at q
  cases e0 : ρ[i]? with
  | none => rw [e0] at q; exact False.elim q
  | some od =>
    cases od with
    | none => rw [e0] at q; exact False.elim q
    | some d =>
      rw [e0] at q
      obtain ⟨v, hv, rd⟩ := re.get i d e0
      refine ⟨v, hv, ?_⟩
      refine (PostS.step (R1 := rD X.K) (f := p.v) re rh q).mono fun x H1 ⟨J1, h1, dx, e1, re1, rh1, rx, q1⟩ => ?_
      cases ha : augOp o d dx with
      | none => rw [ha] at q1; exact False.elim q1
      | some z =>
        rw [ha] at q1
        exact ⟨J1, d, dx, z, rd.ext e1, rx, ha, fun w rw' => q1 J1 H1 _ Ext.refl (re1.set i rw') rh1⟩
/-- name = [..] -/
theorem ss_asgLc {i : Nat} {y : Str} {py sp : Pos} {elt tg iter : Expr} {ifs : List Expr} {scope : Scope} {own : List (Str × Nat)} {t : Tg} {f : Env → Hh → R Src} {v' : Env → Hh → R D} (hc : X.calm = true) (hN : X.N.Nodup) (hy : X.N[i]? = some y) (hyl : X.env.scope.names.lookup y = some .local)
    (hk : X.env.scope.kind = .function) (hl : (py.line == pos.line) = true) (hsh : (scope.names.any fun (n, k) => n == y && (k == .local || k == .cell)) = false) (hi : PI X tg iter (tI X.K f)) (ok : BlkOk X.N X.env.scope scope own) (hown : own.map (·.2) = t.slots)
    (hg : ∀ (s : Shared) (H : Hp) (C : Addr) (cl : List (Str × Addr)) (fp : List Addr), ST (X.blk s H scope (compEnvC scope cl C X.env) fp) tg t t.slots)
    (ht : ∀ (s : Shared) (H : Hp) (C : Addr) (cl : List (Str × Addr)) (fp : List Addr), PTs (X.blk s H scope (compEnvC scope cl C X.env) fp) ifs (tG X.K rB pc.t))
    (he : ∀ (s : Shared) (H : Hp) (C : Addr) (cl : List (Str × Addr)) (fp : List Addr), PE (X.blk s H scope (compEnvC scope cl C X.env) fp) elt (tG X.K (rD X.K) p.v)) (hs : ∀ x, foldedSetIterable iter X.env x = pure x)
    (hv : ∀ {σ : L2.St} {H : Hp} {Q : VK}, tG X.K (rD X.K) v' σ H Q → tF X.K (fun ρ h => (f ρ h).bind fun s h1 => if sizeOk s.items.length then lcLoop s.good (lcTurn t pc p ρ) s.items [] h1 else .bad) σ H Q) :
    PS X (.Assign [.Name y py] (.ListComp elt [⟨tg, iter, ifs, 0⟩] scope pos) sp) (tS X.K fun ρ h => (v' ρ h).then_ fun x h1 => .nxt (ρ.set i (some x)) h1) := by
  refine (ps_setLc (g := gD X.K t t.slots) (tt := tG X.K rB pc.t) (te := tG X.K (rD X.K) p.v) hc hN hy hyl (sw_true hk hyl hl hsh) hi ok (fun s H C cl fp => (hg s H C cl fp).run) ht he hs).imp fun D σ H ⟨ρ, h, J, re, rh, q⟩ => ?_
  rw [hown]
  refine lc_read (hv ?_)
  exact (PostS.step (R1 := rD X.K) (f := v') re rh q).mono fun x H1 ⟨J1, h1, dx, e1, re1, rh1, rx, q1⟩ => q1 J1 H1 _ Ext.refl (re1.set i rx) rh1
end
end PV
end

section
set_option maxRecDepth 100000
namespace PV
open L2 PySem PySem.Spec PyProof.Rows

/-! ### the statements' forms -/
def stAsg : Stmt → Option (Str × Expr)
  | .Assign [.Name y _] e _ => some (y, e)
  | _ => none
def stAsgLc : Stmt → Option (Str × Expr × Expr × Expr × List Expr × Scope)
  | .Assign [.Name y py] (.ListComp elt [⟨tg, iter, ifs, a⟩] scope pos) _ => if a = 0 ∧ (py.line == pos.line) = true then some (y, elt, tg, iter, ifs, scope) else none
  | _ => none
def stPar : Stmt → Option (Str × Str × Expr × Expr)
  | .Assign [.Tuple [.Name x px, .Name y py] _ _] (.Tuple [a, b] _ _) _ => if (py.line == px.line) = true then some (x, y, a, b) else none
  | _ => none
def stUnp : Stmt → Option (List Expr × Expr)
  | .Assign [.Tuple es _ _] e _ => some (es, e)
  | _ => none
def stSto : Stmt → Option (Expr × Expr × Expr)
  | .Assign [.Subscript o i _] e _ => some (o, i, e)
  | _ => none
def stAug : Stmt → Option (Str × Operator × Expr)
  | .AugAssign (.Name y _) op e _ => some (y, op, e)
  | _ => none
def stExp : Stmt → Option Expr
  | .Expr e _ => some e
  | _ => none
def stRet : Stmt → Option Expr
  | .Return (some e) _ => some e
  | _ => none
def stRetN : Stmt → Bool
  | .Return none _ => true
  | _ => false
def stIf : Stmt → Option (Expr × List Stmt × List Stmt)
  | .If c a b _ => some (c, a, b)
  | _ => none
def stWhl : Stmt → Option (Expr × List Stmt)
  | .While c a [] _ => some (c, a)
  | _ => none
def stFor : Stmt → Option (Expr × Expr × List Stmt)
  | .For t i a [] _ => some (t, i, a)
  | _ => none
def stPass : Stmt → Bool
  | .Pass _ => true
  | _ => false
def stBrk : Stmt → Bool
  | .Break _ => true
  | _ => false
def stCnt : Stmt → Bool
  | .Continue _ => true
  | _ => false
section
variable {s : Stmt}
theorem stAsg_eq {y : Str} {e : Expr} (h : stAsg s = some (y, e)) : ∃ p q, s = .Assign [.Name y p] e q := by
  unfold stAsg at h; split at h
  · cases h; exact ⟨_, _, rfl⟩
  · cases h
theorem stAsgLc_eq {y : Str} {elt tg iter : Expr} {ifs : List Expr} {scope : Scope} (h : stAsgLc s = some (y, elt, tg, iter, ifs, scope)) : ∃ py pos q, s = .Assign [.Name y py] (.ListComp elt [⟨tg, iter, ifs, 0⟩] scope pos) q ∧ (py.line == pos.line) = true := by
  unfold stAsgLc at h; split at h
  · split at h
    · rename_i hc; cases h; obtain ⟨rfl, hl⟩ := hc; exact ⟨_, _, _, rfl, hl⟩
    · cases h
  · cases h
theorem stPar_eq {x y : Str} {a b : Expr} (h : stPar s = some (x, y, a, b)) : ∃ px py k tp k2 vp q, s = .Assign [.Tuple [.Name x px, .Name y py] k tp] (.Tuple [a, b] k2 vp) q ∧ (py.line == px.line) = true := by
  unfold stPar at h; split at h
  · split at h
    · rename_i hc; cases h; exact ⟨_, _, _, _, _, _, _, rfl, hc⟩
    · cases h
  · cases h
theorem stUnp_eq {es : List Expr} {e : Expr} (h : stUnp s = some (es, e)) : ∃ k tp q, s = .Assign [.Tuple es k tp] e q := by
  unfold stUnp at h; split at h
  · cases h; exact ⟨_, _, _, rfl⟩
  · cases h
theorem stSto_eq {o i e : Expr} (h : stSto s = some (o, i, e)) : ∃ p q, s = .Assign [.Subscript o i p] e q := by
  unfold stSto at h; split at h
  · cases h; exact ⟨_, _, rfl⟩
  · cases h
theorem stAug_eq {y : Str} {op : Operator} {e : Expr} (h : stAug s = some (y, op, e)) : ∃ p q, s = .AugAssign (.Name y p) op e q := by
  unfold stAug at h; split at h
  · cases h; exact ⟨_, _, rfl⟩
  · cases h
theorem stExp_eq {e : Expr} (h : stExp s = some e) : ∃ q, s = .Expr e q := by
  unfold stExp at h; split at h
  · cases h; exact ⟨_, rfl⟩
  · cases h
theorem stRet_eq {e : Expr} (h : stRet s = some e) : ∃ q, s = .Return (some e) q := by
  unfold stRet at h; split at h
  · cases h; exact ⟨_, rfl⟩
  · cases h
theorem stRetN_eq (h : stRetN s = true) : ∃ q, s = .Return none q := by
  unfold stRetN at h; split at h
  · exact ⟨_, rfl⟩
  · cases h
theorem stIf_eq {c : Expr} {a b : List Stmt} (h : stIf s = some (c, a, b)) : ∃ q, s = .If c a b q := by
  unfold stIf at h; split at h
  · cases h; exact ⟨_, rfl⟩
  · cases h
theorem stWhl_eq {c : Expr} {a : List Stmt} (h : stWhl s = some (c, a)) : ∃ q, s = .While c a [] q := by
  unfold stWhl at h; split at h
  · cases h; exact ⟨_, rfl⟩
  · cases h
theorem stFor_eq {t i : Expr} {a : List Stmt} (h : stFor s = some (t, i, a)) : ∃ q, s = .For t i a [] q := by
  unfold stFor at h; split at h
  · cases h; exact ⟨_, rfl⟩
  · cases h
theorem stPass_eq (h : stPass s = true) : ∃ q, s = .Pass q := by
  unfold stPass at h; split at h
  · exact ⟨_, rfl⟩
  · cases h
theorem stBrk_eq (h : stBrk s = true) : ∃ q, s = .Break q := by
  unfold stBrk at h; split at h
  · exact ⟨_, rfl⟩
  · cases h
theorem stCnt_eq (h : stCnt s = true) : ∃ q, s = .Continue q := by
  unfold stCnt at h; split at h
  · exact ⟨_, rfl⟩
  · cases h
end
def Cs.lcl (c : Cs) (x : Str) : Bool := decide (c.sc.names.lookup x = some .local)
def Cs.cel (c : Cs) (x : Str) : Bool := decide (c.sc.names.lookup x = some .cell)
def Cs.isF (c : Cs) : Bool := decide (c.sc.kind = .function)
/-- a list comprehension that is bound to a name -/
def mLc (c : Cs) (y : Str) (elt tg iter : Expr) (ifs : List Expr) (scope : Scope) : E → Bool
  | .lc t it d e => blkC c.N c.sc scope (c.own t) && mI c it tg iter && plainX iter && mT (c.blk scope) t tg && mE (c.blk scope) e elt && (match ifs with
      | [] => d.isMiss
      | [i] => mE (c.blk scope) d i
      | _ => false) && c.isF && c.lcl y && !(scope.names.any fun (n, k) => n == y && (k == .local || k == .cell))
  | _ => false
def E.body : E → E
  | .new e => e
  | e => e
mutual
def mS (c : Cs) : S → Stmt → Bool
  | .asg i e, s => match stAsg s with
    | some (y, x) => c.loc i y && mayAsg (c.cel y) x && mE c e x
    | none => false
  | .asgLc i e, s => match stAsgLc s with
    | some (y, elt, tg, iter, ifs, scope) => decide (c.N[i]? = some y) && mLc c y elt tg iter ifs scope e.body
    | none => false
  | .par i j a b, s => match stPar s with
    | some (x, y, ea, eb) => decide (c.N[i]? = some x) && decide (c.N[j]? = some y) && decide (i ≠ j) && c.isF && c.lcl x && c.lcl y && decide (x ≠ y) && plainX ea && plainX eb && !(foldedForSure 8 ea && foldedForSure 8 eb) && !(constantsAlone 8 ea && constantsAlone 8 eb) && mE c a ea && mE c b eb
    | none => false
  | .unp is e, s => match stUnp s with
    | some (es, x) => mVs c is es && notComp x && (asTup x).isNone && mE c e x
    | none => false
  | .sto o i e, s => match stSto s with
    | some (eo, ei, x) => plainX ei && mE c o eo && mE c i ei && mE c e x
    | none => false
  | .aug i o e, s => match stAug s with
    | some (y, op, x) => c.loc i y && augM o op && mE c e x
    | none => false
  | .augL _ _, _ => false
  | .exp e, s => match stExp s with
    | some x => notComp x && mE c e x
    | none => false
  | .ret e, s => match stRet s with
    | some x => mE c e x
    | none => false
  | .retN, s => stRetN s
  | .ite t a b, s => match stIf s with
    | some (x, as, bs) => mE c t x && mSs c a as && mSs c b bs
    | none => false
  | .whl t b, s => match stWhl s with
    | some (x, bs) => mE c t x && mSs c b bs
    | none => false
  | .for_ t it b, s => match stFor s with
    | some (tg, x, bs) => mT c t tg && mI c it tg x && plainX x && mSs c b bs
    | none => false
  | .pass, s => stPass s
  | .brk, s => stBrk s
  | .cnt, s => stCnt s
  | .gc _ b, s => mS c b s
def mSs (c : Cs) : Ss → List Stmt → Bool
  | .nil, [] => true
  | .cons s ss, st :: sts => mS c s st && mSs c ss sts
  | _, _ => false
end
structure OkS (c : Cs) (F : Fns) (G : List D) (X : Cx) : Prop extends Ok c F G X where
  xe : X.xe = fun _ _ => False
section
variable {c : Cs} {F : Fns} {G : List D} {X : Cx}
theorem lcl_ok (o : Ok c F G X) {x : Str} (h : c.lcl x = true) : X.env.scope.names.lookup x = some .local := by rw [o.sc]; exact of_decide_eq_true h
theorem isF_ok (o : Ok c F G X) (h : c.isF = true) : X.env.scope.kind = .function := by rw [o.sc]; exact of_decide_eq_true h
theorem ss_lc {i : Nat} {y : Str} {py pos sp : Pos} {elt tg iter : Expr} {ifs : List Expr} {scope : Scope} (o : Ok c F G X) : ∀ (e : E) {v' : Env → Hh → R D}, decide (c.N[i]? = some y) = true → mLc c y elt tg iter ifs scope e = true → (py.line == pos.line) = true →
    (∀ {σ : L2.St} {H : Hp} {Q : VK}, tG X.K (rD X.K) v' σ H Q → tF X.K (evE F G e).v σ H Q) →
    PS X (.Assign [.Name y py] (.ListComp elt [⟨tg, iter, ifs, 0⟩] scope pos) sp) (tS X.K fun ρ h => (v' ρ h).then_ fun x h1 => .nxt (ρ.set i (some x)) h1)
  | .lc t it d e, v', hn, h, hl, hv => by
    simp only [mLc, Bool.and_eq_true, Bool.not_eq_true'] at h
    (obtain ⟨⟨⟨⟨⟨⟨⟨⟨h1, h2⟩, h3⟩, h4⟩, h5⟩, h6⟩, h7⟩, h8⟩, h9⟩ := h)
    refine ss_asgLc (pc := evE F G d) (p := evE F G e) o.calm o.nd (by rw [o.hN]; exact of_decide_eq_true hn) (lcl_ok o h8) (isF_ok o h7) hl h9 (sI it o _ _ h2) (blkOk_by (by rw [o.hN, o.sc]; exact h1)) (own_snd t) (fun s H C cl fp => st_ok o.blk h4) (fun s H C cl fp => ?_) (fun s H C cl fp => (sE e o.blk _ h5).v) (plain_fold h3 _) hv
    split at h6
    · cases d with
      | miss => exact ⟨fun pins s σ H Q I ⟨ρ, h, J, re, rh, q⟩ => pts_nil.run pins s σ H Q I (q J H true Ext.refl rh rfl)⟩
      | _ => cases h6
    · exact pts_one (sE d o.blk _ h6).t
    · cases h6
  | .var _, _, _, h, _, _ => by cases h
  | .con _, _, _, h, _, _ => by cases h
  | .glo _, _, _, h, _, _ => by cases h
  | .miss, _, _, h, _, _ => by cases h
  | .tup _, _, _, h, _, _ => by cases h
  | .ftup _, _, _, h, _, _ => by cases h
  | .lst _, _, _, h, _, _ => by cases h
  | .new _, _, _, h, _, _ => by cases h
  | .dic0, _, _, h, _, _ => by cases h
  | .bin _ _ _, _, _, h, _, _ => by cases h
  | .neg _, _, _, h, _, _ => by cases h
  | .cmp _ _ _, _, _, h, _, _ => by cases h
  | .chain _ _ _ _ _, _, _, h, _, _ => by cases h
  | .and _ _, _, _, h, _, _ => by cases h
  | .or _ _, _, _, h, _, _ => by cases h
  | .not _, _, _, h, _, _ => by cases h
  | .ite _ _ _, _, _, h, _, _ => by cases h
  | .idx _ _, _, _, h, _, _ => by cases h
  | .slc _ _ _, _, _, h, _, _ => by cases h
  | .call _ _, _, _, h, _, _ => by cases h
  | .callK _ _ _ _, _, _, h, _, _ => by cases h
  | .isi _ _, _, _, h, _, _ => by cases h
  | .tenum _, _, _, h, _, _ => by cases h
  | .mth _ _ _, _, _, h, _, _ => by cases h
  | .bf _ _, _, _, h, _, _ => by cases h
theorem lc_lst2 : ∀ (e : E) {y : Str} {elt tg iter : Expr} {ifs : List Expr} {scope : Scope}, mLc c y elt tg iter ifs scope e = true → ∀ ρ h d h', (evE F G e).v ρ h = .ok d h' → ∃ ds, d = .lst ds := by
  intro e y elt tg iter ifs scope h
  cases e with
  | lc t it d e => exact fun ρ h d h' ev => lc_lst _ _ _ _ ev
  | _ => cases h
mutual
theorem sS : ∀ (t : S) (o : OkS c F G X) (x : Stmt), mS c t x = true → PS X x (tS X.K (evS F G t))
  | .asg i e, o, x, h => by
    simp only [mS] at h
    split at h
    · rename_i y z hy
      obtain ⟨p, q, rfl⟩ := stAsg_eq hy
      (simp only [Bool.and_eq_true] at h)
      obtain ⟨h1, h2, h3⟩ := loc_ok o.toOk h.1.1
      exact ss_asg o.nd h1 h2 h3 (fun q => by rw [o.sc]; exact of_decide_eq_true q) h.1.2 (sE e o.toOk _ h.2)
    · cases h
  | .asgLc i e, o, x, h => by
    simp only [mS] at h
    split at h
    · rename_i y elt tg iter ifs scope hy
      obtain ⟨py, pos, q, rfl, hl⟩ := stAsgLc_eq hy
      (simp only [Bool.and_eq_true] at h)
      cases e with
      | new e => exact ss_lc o.toOk e h.1 h.2 hl fun t => tF_new t
      | lc t it d e => exact ss_lc o.toOk (.lc t it d e) h.1 h.2 hl fun t => tF_of (lc_lst2 _ h.2) t
      | _ => cases h.2
    · cases h
  | .par i j a b, o, x, h => by
    simp only [mS] at h
    split at h
    · rename_i x y ea eb hy
      obtain ⟨px, py, k, tp, k2, vp, q, rfl, hl⟩ := stPar_eq hy
      simp only [Bool.and_eq_true, decide_eq_true_eq, Bool.not_eq_true'] at h
      obtain ⟨⟨⟨⟨⟨⟨⟨⟨⟨⟨⟨⟨h1, h2⟩, h3⟩, h4⟩, h5⟩, h6⟩, h7⟩, h8⟩, h9⟩, h10⟩, h11⟩, h12⟩, h13⟩ := h
      exact ss_par o.calm o.nd (by rw [o.hN]; exact h1) (by rw [o.hN]; exact h2) h3 (isF_ok o.toOk h4) (lcl_ok o.toOk h5) (lcl_ok o.toOk h6) h7 hl h8 h9 h10 h11 (sE a o.toOk _ h12) (sE b o.toOk _ h13)
    · cases h
  | .unp is e, o, x, h => by
    simp only [mS] at h
    split at h
    · rename_i es z hy
      obtain ⟨k, tp, q, rfl⟩ := stUnp_eq hy
      simp only [Bool.and_eq_true, Option.isNone_iff_eq_none] at h
      exact ss_unp o.calm (svs_ok o.toOk h.1.1.1) h.1.1.2 h.1.2 (sE e o.toOk _ h.2)
    · cases h
  | .sto a i e, o, x, h => by
    simp only [mS] at h
    split at h
    · rename_i ea ei z hy
      obtain ⟨p, q, rfl⟩ := stSto_eq hy
      (simp only [Bool.and_eq_true] at h)
      exact ss_sto o.units h.1.1.1 (sE a o.toOk _ h.1.1.2) (sE i o.toOk _ h.1.2) (sE e o.toOk _ h.2)
    · cases h
  | .aug i op e, o, x, h => by
    simp only [mS] at h
    split at h
    · rename_i y p z hy
      obtain ⟨q, r, rfl⟩ := stAug_eq hy
      (simp only [Bool.and_eq_true] at h)
      obtain ⟨h1, h2, h3⟩ := loc_ok o.toOk h.1.1
      exact ss_aug o.nd h1 h2 h3 h.1.2 (sE e o.toOk _ h.2)
    · cases h
  | .augL _ _, o, x, h => by cases h
  | .exp e, o, x, h => by
    simp only [mS] at h
    split at h
    · rename_i z hy
      obtain ⟨q, rfl⟩ := stExp_eq hy
      (simp only [Bool.and_eq_true] at h)
      exact ss_exp h.1 (sE e o.toOk _ h.2)
    · cases h
  | .ret e, o, x, h => by
    simp only [mS] at h
    split at h
    · rename_i z hy
      obtain ⟨q, rfl⟩ := stRet_eq hy
      exact ss_ret (sE e o.toOk _ h)
    · cases h
  | .retN, o, x, h => by obtain ⟨q, rfl⟩ := stRetN_eq h; exact ss_retN
  | .ite t a b, o, x, h => by
    simp only [mS] at h
    split at h
    · rename_i z as bs hy
      obtain ⟨q, rfl⟩ := stIf_eq hy
      (simp only [Bool.and_eq_true] at h)
      exact ss_if (sE t o.toOk _ h.1.1) (sSs a o _ h.1.2) (sSs b o _ h.2)
    · cases h
  | .whl t b, o, x, h => by
    simp only [mS] at h
    split at h
    · rename_i z bs hy
      obtain ⟨q, rfl⟩ := stWhl_eq hy
      (simp only [Bool.and_eq_true] at h)
      exact ss_whl o.xe (sE t o.toOk _ h.1) (sSs b o _ h.2)
    · cases h
  | .for_ t it b, o, x, h => by
    simp only [mS] at h
    split at h
    · rename_i tg z bs hy
      obtain ⟨q, rfl⟩ := stFor_eq hy
      (simp only [Bool.and_eq_true] at h)
      exact ss_for o.xe o.calm (sI it o.toOk _ _ h.1.1.2) (st_ok o.toOk h.1.1.1) (sSs b o _ h.2) h.1.2
    · cases h
  | .pass, o, x, h => by obtain ⟨q, rfl⟩ := stPass_eq h; exact ss_pass
  | .brk, o, x, h => by obtain ⟨q, rfl⟩ := stBrk_eq h; exact ss_brk
  | .cnt, o, x, h => by obtain ⟨q, rfl⟩ := stCnt_eq h; exact ss_cnt
  | .gc ks b, o, x, h => (sS b o x h).imp fun D σ H ⟨ρ, h, J, re, rh, q⟩ => ⟨ρ, h, J, re, rh, q.gc rh⟩
theorem sSs : ∀ (t : Ss) (o : OkS c F G X) (xs : List Stmt), mSs c t xs = true → PSs X xs (tS X.K (evSs F G t))
  | .nil, o, [], h => ss_nil
  | .nil, o, _ :: _, h => by cases h
  | .cons _ _, o, [], h => by cases h
  | .cons s ss, o, x :: xs, h => by
    simp only [mSs, Bool.and_eq_true] at h
    exact ss_cons (sS s o _ h.1) (sSs ss o _ h.2)
end
end
end PV
end

section
set_option maxRecDepth 100000
namespace PV
open L2 PySem PySem.Spec PyProof.Rows

/-! ### a def's end -/
section
variable {K : PySem.W.Frag} {J J' : Jn} {H H' : Hp} {h h' : Hh}
theorem frz_rd {n : Nat} (rh : RH K J h H) : ∀ (k : Nat) (d : D) (v : V), RD K J H d v → (d.frz h n k).rlt n = true → RD K (J.cut n) H (d.frz h n k) v
  | 0, d, v, r, e => r.cut e
  | k + 1, d, v, r, e => by
    have i1 := frz_rd rh (n := n) k
    have i2 : ∀ (ds : List D) (vs : List V), RDs K J H ds vs → D.rlts n (ds.map (D.frz h n k)) = true → RDs K (J.cut n) H (ds.map (D.frz h n k)) vs := by
      intro ds
      induction ds with
      | nil => intro vs r e; cases r; exact .nil
      | cons x xs ih =>
        intro vs r e
        cases r with
        | cons rx rr =>
          simp only [List.map_cons, D.rlts, Bool.and_eq_true] at e
          exact .cons (i1 _ _ rx e.1) (ih _ rr e.2)
    cases d with
    | ref i =>
      simp only [D.frz] at e ⊢
      split at e
      · rename_i hi
        rw [if_pos hi]; exact r.cut e
      · rename_i hi
        rw [if_neg hi]
        cases r with
        | @ref _ a q =>
          obtain ⟨o, u, h1, h2, h3⟩ := rh.at q
          rw [h1] at e ⊢
          cases h3 with
          | @lst ds vs z rr =>
            refine .lst (fun hm => ?_) (fun hm => rh.apart a hm (List.mem_of_getElem? q)) h2 z (i2 _ _ rr e)
            obtain ⟨j, hj⟩ := List.mem_iff_getElem?.mp hm
            have hjn : j < n := by
              have := (List.getElem?_eq_some_iff.mp hj).1
              simp only [List.length_take] at this; omega
            have hj' : J.l[j]? = some a := by
              have hj2 : (J.l.take n)[j]? = some a := hj
              rwa [List.getElem?_take_of_lt hjn] at hj2
            obtain ⟨l1, e1⟩ := List.getElem?_eq_some_iff.mp q
            obtain ⟨l2, e2⟩ := List.getElem?_eq_some_iff.mp hj'
            have := (List.getElem_inj rh.nd).mp (e1.trans e2.symm)
            omega
          | dct z rr => exact absurd (of_decide_eq_true e) hi
    | tup xs =>
      cases r with
      | tup a m q z r => exact .tup (fun hm => a (List.mem_of_mem_take hm)) m q z (i2 _ _ r e)
      | ktup kk z r => exact .ktup kk z (i2 _ _ r e)
    | lst xs =>
      cases r with
      | lst a m q z r => exact .lst (fun hm => a (List.mem_of_mem_take hm)) m q z (i2 _ _ r e)
    | non => exact r.cut e
    | bl b => exact r.cut e
    | int i => exact r.cut e
    | str x => exact r.cut e
    | fz xs => exact r.cut e
    | ftup xs => exact r.cut e
theorem finD_post {f : Bool} {d : D} {h2 : Hh} {Q : VK} (rh : RH K J h H) (p : Post K J H (rD K) (finD f h.length d h2) Q) : ∀ J' H' v, Ext J H J' H' → RH K J' h2 H' → RD K J' H' d v → Q v H' := by
  intro J' H' v e rh' rv
  unfold finD at p
  cases f with
  | false => exact p J' H' v e rh' rv
  | true =>
    simp only [if_true] at p
    split at p
    · rename_i hc
      (simp only [Bool.and_eq_true] at hc)
      have hle : h.length ≤ h2.length := by
        obtain ⟨m, hm, _⟩ := e.pre
        rw [← rh'.len, ← rh.len, hm, List.length_append]; omega
      exact p _ H' v (e.cut rh) (rh'.cut hle hc.2) (frz_rd rh' 4 _ _ rv hc.1)
    · exact p.elim
theorem finR_post {f : Bool} {r : RS} {Q : VK} (rh : RH K J h H) (p : Post K J H (rD K) (finR f h.length r) Q) : PostS K J H r { nx := fun _ H' => Q .non H', rt := Q } := by
  cases r with
  | ret d h2 => exact finD_post rh p
  | nxt ρ h2 => exact fun J' H' σ e re rh' => finD_post rh p J' H' .non e rh' .non
  | bad => exact p
  | brk _ _ => exact False.elim p
  | cnt _ _ => exact False.elim p
  | err _ _ => exact False.elim p
theorem re_start {N : List Str} {ds : List D} {vs : List V} (r : RDs K J H ds vs) : RE K J H (ds.map some ++ List.replicate (N.length - ds.length) none) (L2.start N vs) := by
  refine ⟨by simp [L2.start, r.length], fun i d q => ?_⟩
  by_cases hi : i < ds.length
  · rw [List.getElem?_append_left (by simpa using hi), List.getElem?_map] at q
    cases hd : ds[i]? with
    | none => rw [hd] at q; cases q
    | some d' =>
      rw [hd] at q; cases q
      obtain ⟨v, h1, h2⟩ := r.get hd
      refine ⟨v, ?_, h2⟩
      have hv : i < vs.length := (List.getElem?_eq_some_iff.mp h1).1
      unfold L2.start
      rw [List.getElem?_append_left (by simpa using hv), List.getElem?_map, h1]; rfl
  · rw [List.getElem?_append_right (by simp; omega)] at q
    rw [List.getElem?_replicate] at q
    split at q <;> cases q
end

/-! ### a def by its body, where no repr is under way -/
section
variable {P : Program} {w : World} {K : PySem.W.Frag} {mg : Str → Option Value} {base : Heap} {params : Arguments} {body : List Stmt} {scope : Scope}
theorem deeper_guards (A : Around) (env : PySem.Env) : (A.deeper env).guards = A.guards := rfl
theorem fnG_of {x : Str} {a : Addr} {fd : FuncData} {N ps : List Str} {k : Nat} {sp : Sp} (F : FunD K x x params body scope [] [] a fd) (S : FnScope N ps scope) (len : ∀ vs H Q E, sp vs H Q E → vs.length = ps.length)
    (hb : ∀ (cd : Value) (A : Around) (out : List PySem.Env) (s : Shared) (H : Hp) (vs : List V) (Q : VK), Room k (A.deeper (envOfC x scope s.heap.objs.size a cd)) → A.guards = some [] → sp vs H Q E0 →
      ∃ t, PSs (cxOf CX0 P w K mg base N x scope a cd A out s H E0).nox body t ∧ t { nx := fun _ H' => Q .non H', rt := Q } (L2.start N vs) H) : FnG P w K mg base (k + 1) a fd ps sp := by
  (obtain ⟨oc, od, dV, kV, doc, pm, an, cdv, ct, osl, rfl, lk, hcd, _, _⟩ := F.ex)
  refine ⟨len, fun {A out s H args us vs Q} hr hgd e0 hbd r hsp => ?_⟩
  have inK : K.In s.heap := e0.mod.kin.keeps fun b o e => (e0.bs b o e).1
  have noLim : s.heap.NoLimit := e0.mod.nolimit.keeps fun b o e => (e0.bs b o e).1
  refine codeAny_call_function hr.depth (inK _ _ lk) rfl S.co S.gen rfl (PySem.W.codeRec_of inK hcd) (hbd _ _ _ _ ?_)
  refine wpAny_newFunctionEnv_cells S.kind (fun y hy => ?_) fun env he s1 x1 => ?_
  · have hy1 := (List.of_mem_zip (show (y.1, y.2) ∈ ps.zip us from hy)).1
    cases S.par y.1 hy1 with
    | inl q => exact .inl q
    | inr q => exact .inr ⟨q, PySem.W.cellsFrom_some _ _ _ (.inl q)⟩
  · subst he
    refine ⟨noLim.keeps x1.toInCall.keep, codeAny_func ?_⟩
    obtain ⟨t, ht, hq⟩ := hb cdv A out s H vs Q (hr.deeper _) hgd hsp
    have I : L2.Inv (cxOf CX0 P w K mg base N x scope a cdv A out s H E0) [] (L2.start N vs) H s1 := inv_start S hr.hd e0 (len _ _ _ _ hsp) r x1
    refine wpAny_mono (ht.nox.run [] s1 (L2.start N vs) H _ I hq) (fun fl s' hs => ?_) fun e s' hs => hs
    cases fl with
    | ret u => obtain ⟨v, σ', H', I', rv, q⟩ := hs; exact ⟨v, H', I'.os, I'.bare, I'.base, I'.hok, rv, q⟩
    | next => obtain ⟨σ', H', I', q⟩ := hs; exact ⟨.non, H', I'.os, I'.bare, I'.base, I'.hok, rfl, q⟩
    | brk => obtain ⟨_, _, _, q⟩ := hs; exact q.elim
    | cont => obtain ⟨_, _, _, q⟩ := hs; exact q.elim
end

/-! ### the table of the defs -/
/-- what is known of a def of the table: where it stands, its text -/
structure DefOk (K : PySem.W.Frag) (mg : Str → Option Value) (bs gn : List Str) (T : List Fn) (fn : Fn) (params : Arguments) (body : List Stmt) (scope : Scope) : Prop where
  sc : FnScope fn.N fn.P scope
  ok : mSs ⟨fn.N, scope, fun _ => true, bs, T, gn⟩ fn.body body = true
  ex : ∃ a fd, FunD K fn.name fn.name params body scope [] [] a fd ∧ mg fn.name = some (.ref a) ∧ L2.Binds K fd fn.P [] ∧ ∀ q ∈ fn.kw, KwOk K fd fn.P q.1 q.2.1 q.2.2
section
variable {P : Program} {w : World} {K : PySem.W.Frag} {mg : Str → Option Value} {base : Heap} {T : List Fn} {bs gn : List Str} {G : List D}
def TabAt (P : Program) (w : World) (K : PySem.W.Frag) (mg : Str → Option Value) (base : Heap) (T : List Fn) (G : List D) (k : Nat) : Prop := ∀ (f : Nat) (fn : Fn), T[f]? = some fn →
    ∃ a fd, mg fn.name = some (.ref a) ∧ PySem.W.keepIn K (.ref a) = true ∧ FnG P w K mg base k a fd fn.P (spF K (callN T G k) f fn.P.length) ∧ L2.Binds K fd fn.P [] ∧ ∀ q ∈ fn.kw, KwOk K fd fn.P q.1 q.2.1 q.2.2
/-- one def more deep -/
theorem def_step (hb : ∀ x ∈ bs, mg x = none) (hg : ∀ (i : Nat) (x : Str) (d : D), gn[i]? = some x → G[i]? = some d → ∃ v u, mg x = some u ∧ L2.RelV v u ∧ ∀ J H, RD K J H d v) {k f : Nat} {fn : Fn} {params : Arguments} {body : List Stmt} {scope : Scope} {a : Addr} {fd : FuncData}
    (IH : TabAt P w K mg base T G k) (hf : T[f]? = some fn) (sc : FnScope fn.N fn.P scope) (ok : mSs ⟨fn.N, scope, fun _ => true, bs, T, gn⟩ fn.body body = true) (fu : FunD K fn.name fn.name params body scope [] [] a fd) :
    FnG P w K mg base (k + 1) a fd fn.P (spF K (callN T G (k + 1)) f fn.P.length) := by
  unfold TabAt at IH
  refine fnG_of fu sc (fun vs H Q E h => h.1) (fun cdv A outer s H vs Q hr hgd hsp => ⟨tS K (evSs (callN T G k) G fn.body), ?_, ?_⟩)
  · exact sSs fn.body (c := ⟨fn.N, scope, fun _ => true, bs, T, gn⟩) ⟨⟨rfl, sc.nd, rfl, rfl, rfl, ⟨k, hr, hgd, IH⟩, hb, hg⟩, rfl⟩ body ok
  · obtain ⟨hl, J, h, ds, rs, rh, q⟩ := hsp
    have q : Post K J H (rD K) (match T[f]? with
      | none => .bad
      | some fn => if ds.length = fn.P.length then finR fn.frz h.length (evSs (callN T G k) G fn.body (ds.map some ++ List.replicate (fn.N.length - ds.length) none) h) else .bad) Q := q
    rw [hf] at q
    dsimp only at q
    rw [if_pos (by rw [rs.length]; exact hl)] at q
    exact ⟨_, h, J, re_start rs, rh, finR_post rh q⟩
theorem tab_ok (hT : ∀ (f : Nat) (fn : Fn), T[f]? = some fn → ∃ params body scope, DefOk K mg bs gn T fn params body scope) (hb : ∀ x ∈ bs, mg x = none)
    (hg : ∀ (i : Nat) (x : Str) (d : D), gn[i]? = some x → G[i]? = some d → ∃ v u, mg x = some u ∧ L2.RelV v u ∧ ∀ J H, RD K J H d v) : ∀ (k : Nat), TabAt P w K mg base T G k
  | 0, f, fn, hf => by
    obtain ⟨params, body, scope, d⟩ := hT f fn hf
    obtain ⟨a, fd, fu, hm, hbd, hkw⟩ := d.ex
    refine ⟨a, fd, hm, fu.kp, ⟨fun vs H Q E h => h.1, fun {A out s H args us vs Q} hr hgd e0 hb' r hsp => ?_⟩, hbd, hkw⟩
    obtain ⟨_, J, h, ds, _, _, q⟩ := hsp
    exact False.elim q
  | k + 1, f, fn, hf => by
    obtain ⟨params, body, scope, d⟩ := hT f fn hf
    obtain ⟨a, fd, fu, hm, hbd, hkw⟩ := d.ex
    exact ⟨a, fd, hm, fu.kp, def_step hb hg (tab_ok hT hb hg k) hf d.sc d.ok fu, hbd, hkw⟩
/-- a call with keywords -/
theorem kw_mk {x qual : Str} {params : Arguments} {body : List Stmt} {scope : Scope} {a : Addr} {fd : FuncData} {ps : List Str} {n : Nat} {ks : List Str} {pm : List Nat} (fu : FunD K x qual params body scope [] [] a fd) (hl : pm.length = ps.length)
    (h : ∀ (kV doc pmv : Value) (an : Option Addr) (cdv ct : Value) (us ws : List Value), us.length = n → ws.length = ks.length → bindArgs (PySem.W.fnOf x qual params body scope .none kV doc pmv an cdv ct) ⟨us, ks.zip ws⟩ = pure (ps.zip (pmD .none pm us ws))) : KwOk K fd ps n ks pm := by
  obtain ⟨oc, od, dV, kV, doc, pmv, an, cdv, ct, osl, rfl, lk, hcd, hD, hK⟩ := fu.ex
  (rcases hD with ⟨_, rfl⟩ | ⟨e, _⟩)
  · exact ⟨fun s us ws _ h1 h2 => .of_eq (h kV doc pmv an cdv ct us ws h1 h2), hl⟩
  · exact absurd rfl e
/-- the law: what the evaluator says of it holds -/
theorem law_sp {f n k : Nat} {fn : Fn} (hf : T[f]? = some fn) (hp : fn.P.length = 1) (hev : ∀ ns : List Int, ns.length ≤ n → ∃ h, callN T G k f [.fz (ns.map D.int)] [] = .ok (.bl true) h) (hn : n ≤ sizeLine) (H : Hp) (a : Addr) (ns : List Int) (hl : ns.length ≤ n) (hO : Only H) (hS : SqL K H a (ns.map V.int)) :
    spF K (callN T G k) f fn.P.length [.ref a] H (fun v _ => v = .bl true) fun _ _ _ => False := by
  refine ⟨hp.symm, ⟨[], []⟩, [], [.fz (ns.map D.int)], .cons ?_ .nil, ⟨List.nodup_nil, rfl, fun i o e => by simp at e, fun a ha => (by cases ha), fun a ha => (by cases ha)⟩, ?_⟩
  · have rs : ∀ ns : List Int, RDs K ⟨[], []⟩ H (ns.map D.int) (ns.map V.int) := by
      intro ns
      induction ns with
      | nil => exact .nil
      | cons i r ih => exact .cons (.int i) ih
    have hz : (ns.map V.int).length ≤ sizeLine := by rw [List.length_map]; omega
    rcases hS with hS | hS
    · rcases hO a with e | ⟨o, xs, e⟩
      · rcases hS with q | ⟨_, q⟩ <;> rw [e] at q <;> cases q
      · rcases hS with q | ⟨o', q⟩
        · rw [e] at q; cases q
        · exact .fz (fun hm => by cases hm) (fun hm => by cases hm) q hz (rs ns)
    · exact .kfz hS hz (rs ns)
  · obtain ⟨h, e⟩ := hev ns hl
    rw [e]
    intro J' H' b _ _ rv
    cases rv; rfl

/-! ### the law's call -/
theorem law_g {mb : Str → Option Value} {k : Nat} {fa a : Addr} {fd : FuncData} {x : Str} {sp : Sp} {s1 : Shared} {vs : List Value} {ns : List Int}
    (kx : K.In s1.heap) (hm : s1.heap.Ns mainGlobals mg) (hbn : s1.heap.Ns builtinsNs mb) (hbb : ∀ y : Str, y ≠ "__name__" → mb y = bootBuiltins y) (hlim : s1.heap.NoLimit) (hgn : s1.gens = #[])
    (ha : s1.heap.get? a = some { cls := .type "list", data := .seq vs.toArray }) (hi : IntsAre vs ns) (hl : ns.length ≤ sizeLine) (hr : Room k callerA)
    (hF : ∀ base : Heap, K.In base → base.Ns mainGlobals mg → FnG P w K mg base k fa fd [x] sp) (hbd : ∀ (s : Shared) (u : Value), BindsTo s fd ⟨[u], []⟩ [(x, u)])
    (hsp : ∀ H : Hp, Only H → SqL K H a (ns.map V.int) → sp [.ref a] H (fun v _ => v = .bl true) E0) :
    codeAny (model P w) callerA (.call (.ref fa) ⟨[.ref a], []⟩) (fun r s' => r = .ok (.ret (.bool true)) ∧ OldK s1.heap s'.heap ∧ s'.os = s1.os ∧ AllBare s'.gens) s1 := by
  have rv : Vals (ns.map V.int) vs := vals_ints hi
  have hlen := hi.length
  have main : ∀ H : Hp, Only H → SqL K H a (ns.map V.int) → HOk P w H s1.heap → (∀ b, H b ≠ none → b = a ∧ K.lookup a = none) →
      codeAny (model P w) callerA (.call (.ref fa) ⟨[.ref a], []⟩) (fun r s' => r = .ok (.ret (.bool true)) ∧ OldK s1.heap s'.heap ∧ s'.os = s1.os ∧ AllBare s'.gens) s1 := by
    intro H only seq ok own
    have keep : ∀ {b : Addr} {o : Obj}, s1.heap.get? b = some o → H b = none → (hidT s1.heap H).get? b = some o := fun e n => hidT_get e n
    have dictFree : ∀ {b : Addr} {o : Obj} {es : Array DictEntry} {n : Nat}, s1.heap.get? b = some o → o.data = .dict es n → H b = none := by
      intro b o es n e d
      cases hq : H b with
      | none => rfl
      | some u =>
        obtain rfl := (own b (by rw [hq]; exact Option.some_ne_none u)).1
        rw [ha] at e; cases e; cases d
    have names : ∀ {b : Addr} {m : Str → Option Value}, s1.heap.Ns b m → (hidT s1.heap H).Ns b m := by
      rintro b m ⟨o, es, n, e, d, q⟩
      exact ⟨o, es, n, keep e (dictFree e d), d, q⟩
    have kIn : K.In (hidT s1.heap H) := by
      intro b o e
      refine keep (kx b o e) ?_
      cases hq : H b with
      | none => rfl
      | some u =>
        obtain ⟨rfl, hk⟩ := own b (by rw [hq]; exact Option.some_ne_none u)
        rw [hk] at e; cases e
    obtain ⟨mc, c1, c2⟩ := hlim
    have env : Env0 P w K mg (hidT s1.heap H) callerA [] s1 H :=
      ⟨rfl, ⟨kIn, names hm, ⟨mb, names hbn, hbb⟩, ⟨mc, names c1, c2⟩⟩, fun b o e => of_hidT e, Nat.le_of_eq (hidT_size _ _), trivial, fun b hb => (List.not_mem_nil hb).elim, ok, .of_eq hgn⟩
    refine codeAny_mono ((hF _ kIn (names hm)).go (us := [.ref a]) (vs := [.ref a]) hr rfl env (hbd s1 (.ref a)) (.cons rfl .nil) (hsp H only seq)) fun r s' hq => ?_
    cases r with
    | error e => exact (False.elim hq)
    | ok fl =>
      cases fl with
      | next => exact False.elim hq
      | brk => exact False.elim hq
      | cont => exact False.elim hq
      | ret u =>
        obtain ⟨v, H', os, bare, un, ok', ru, rfl⟩ := hq
        cases (show u = Value.bool true from ru)
        (refine ⟨rfl, OldK.of_keep fun b o e => ?_, os, bare⟩)
        cases hb : H b with
        | none => exact un.keep b o e hb (fun z => List.not_mem_nil z) (by simp)
        | some u =>
          rcases only b with z | ⟨ob, xs, z⟩
          · rw [hb] at z; cases z
          · have e1 := (ok b _ z).1
            have e2 := (ok' b _ (un.frzs b ob _ z)).1
            rw [e] at e1; cases e1; exact e2
  cases hk : K.lookup a with
  | some o =>
    have e := kx a o hk
    rw [ha] at e; cases e
    exact main (fun _ => none) (fun _ => .inl rfl) (.inr ⟨_, vs.toArray, _, hk, rfl, rfl, rfl, by simpa [hlen] using hl, by simpa using rv⟩) (fun b u z => by cases z) fun b z => absurd rfl z
  | none =>
    let H : Hp := upd (fun _ => none) a (.frz { cls := .type "list", data := .seq vs.toArray } (.lst (ns.map V.int)))
    have ne : ∀ {b : Addr}, b ≠ a → H b = none := fun hb => upd_ne hb
    refine main H (fun b => ?_) (.inl (.inr ⟨_, upd_same⟩)) (fun b u z => ?_) fun b z => ?_
    · by_cases hb : b = a
      · subst hb; exact .inr ⟨_, _, upd_same⟩
      · exact .inl (ne hb)
    · by_cases hb : b = a
      · subst hb
        have z' : some _ = some u := upd_same.symm.trans z
        cases z'
        (exact ⟨ha, by rw [List.length_map]; exact hl, vs, _, rv, ha⟩)
      · rw [ne hb] at z; cases z
    · by_cases hb : b = a
      · exact ⟨hb, hk⟩
      · exact absurd (ne hb) z
end
/-- a law over the evaluator -/
theorem walk_g {l : PySem.W.OpenLaw} {n k : Nat} {q : Program} {loose : List Str} {XP : (Str → Option Value) → Heap → Prop} {YP : World → Heap → Prop} {d : DefRec} {x : Str}
    (hn : l.most = some n) (hn2 : n ≤ sizeLine)
    (hdf : d.params.defaults = []) (hr : Room k callerA)
    (hF : ∀ (w : World) (mg : Str → Option Value) (fa : Addr) (h : Heap), YP w h → h.Ns mainGlobals mg → mg d.name = some (.ref fa) →
      ∃ (K : PySem.W.Frag) (fd : FuncData) (sp : Sp), K.In h ∧
        (∀ (s : Shared) (u : Value), BindsTo s fd ⟨[u], []⟩ [(x, u)]) ∧
        (∀ (H : Hp) (a : Addr) (ns : List Int), ns.length ≤ n → Only H → SqL K H a (ns.map V.int) → sp [.ref a] H (fun v _ => v = .bl true) E0) ∧
        ∀ base : Heap, K.In base → base.Ns mainGlobals mg → FnG l.prog w K mg base k fa fd [x] sp) :
    (PySem.W.WalkO q loose XP YP l.row.toRowW d [] (fun f vs => PySem.call f vs)) := by
  refine Att.attach_call hn hdf fun w t0 t1 mg mb fa o pm cd doc a vs ns W Y ho hd hcd hmg hobj hints hlen hgn => ?_
  obtain ⟨K, fd, sp, kx, hbd, hsp, go⟩ := hF w mg fa _ Y W.T.g hmg
  exact law_g kx W.T.g W.T.b W.T.builtins W.T.nolimit hgn hobj hints (Nat.le_trans hlen hn2) hr go hbd fun H only seq => hsp H a ns hlen only seq
end PV
end

section
/-! PvU: rules for running the evaluator by simp. -/
namespace PV
open PySem L2
section
variable {α β : Type} {F : Fns} {G : List D} {ρ : Env} {h : Hh}
/-- locks a continuation: simp leaves it as it stands until its value is there -/
structure Lk {γ : Type} (f : γ) : Type where
  mk ::
def R.bnd (r : R α) (f : α → Hh → R β) (_ : Lk f) : R β := r.bind f
def R.thn (r : R α) (f : α → Hh → RS) (_ : Lk f) : RS := r.then_ f
def RS.thn (r : RS) (f : Env → Hh → RS) (_ : Lk f) : RS := r.then_ f
@[simp] theorem bnd_ok (a : α) (h : Hh) (f : α → Hh → R β) (l : Lk f) : (R.ok a h).bnd f l = f a h := id rfl
@[simp] theorem bnd_bad (f : α → Hh → R β) (l : Lk f) : (R.bad : R α).bnd f l = .bad := id rfl
@[simp] theorem thn_ok (a : α) (h : Hh) (f : α → Hh → RS) (l : Lk f) : (R.ok a h).thn f l = f a h := id rfl
@[simp] theorem thn_bad (f : α → Hh → RS) (l : Lk f) : (R.bad : R α).thn f l = .bad := id rfl
@[simp] theorem sthn_nxt (ρ : Env) (h : Hh) (f : Env → Hh → RS) (l : Lk f) : (RS.nxt ρ h).thn f l = f ρ h := id rfl
@[simp] theorem sthn_ret (d : D) (h : Hh) (f : Env → Hh → RS) (l : Lk f) : (RS.ret d h).thn f l = .ret d h := id rfl
@[simp] theorem sthn_bad (f : Env → Hh → RS) (l : Lk f) : RS.bad.thn f l = .bad := id rfl
@[simp] theorem sthn_brk (ρ : Env) (h : Hh) (f : Env → Hh → RS) (l : Lk f) : (RS.brk ρ h).thn f l = .brk ρ h := id rfl
@[simp] theorem sthn_cnt (ρ : Env) (h : Hh) (f : Env → Hh → RS) (l : Lk f) : (RS.cnt ρ h).thn f l = .cnt ρ h := id rfl
@[simp] theorem bnd_ite {c : Prop} [Decidable c] {a b : R α} {f : α → Hh → R β} {l : Lk f} : (if c then a else b).bnd f l = if c then a.bnd f l else b.bnd f l := by split <;> rfl
@[simp] theorem thn_ite {c : Prop} [Decidable c] {a b : R α} {f : α → Hh → RS} {l : Lk f} : (if c then a else b).thn f l = if c then a.thn f l else b.thn f l := by split <;> rfl
@[simp] theorem sthn_ite {c : Prop} [Decidable c] {a b : RS} {f : Env → Hh → RS} {l : Lk f} : (if c then a else b).thn f l = if c then a.thn f l else b.thn f l := by split <;> rfl
@[simp] theorem finR_ite {c : Prop} [Decidable c] {a b : RS} {g : Bool} {n : Nat} : finR g n (if c then a else b) = if c then finR g n a else finR g n b := by split <;> rfl
@[simp] theorem finR_ret (n : Nat) (d : D) (h : Hh) : finR false n (.ret d h) = .ok d h := id rfl
@[simp] theorem finR_nxt (n : Nat) (ρ : Env) (h : Hh) : finR false n (.nxt ρ h) = .ok .non h := id rfl
/-! expressions -/
theorem opt_map {f : α → β} (o : Option α) (h : Hh) : R.opt (o.map f) h = (R.opt o h).bind fun a h => .ok (f a) h := by cases o <;> rfl
@[simp] theorem v_var (i : Nat) : (evE F G (.var i)).v ρ h = (match ρ[i]? with | some (some d) => R.ok d h | _ => R.bad) := id rfl
@[simp] theorem v_con (d : D) : (evE F G (.con d)).v ρ h = .ok d h := id rfl
@[simp] theorem v_glo (i : Nat) : (evE F G (.glo i)).v ρ h = R.opt G[i]? h := id rfl
@[simp] theorem t_miss : (evE F G .miss).t ρ h = .ok true h := id rfl
@[simp] theorem v_tup' (es : Es) : (evE F G (.tup es)).v ρ h = ((evEs F G es).l ρ h).bnd (fun xs h1 => if sizeOk xs.length then .ok (.tup xs) h1 else .bad) ⟨⟩ := id rfl
@[simp] theorem v_ftup' (es : Es) : (evE F G (.ftup es)).v ρ h = ((evEs F G es).l ρ h).bnd (fun xs h1 => if sizeOk xs.length then .ok (.ftup xs) h1 else .bad) ⟨⟩ := id rfl
@[simp] theorem v_lst' (es : Es) : (evE F G (.lst es)).v ρ h = ((evEs F G es).l ρ h).bnd (fun xs h1 => if sizeOk xs.length then .ok (.lst xs) h1 else .bad) ⟨⟩ := id rfl
@[simp] theorem v_new (e : E) : (evE F G (.new e)).v ρ h = ((evE F G e).v ρ h).bnd newObj ⟨⟩ := id rfl
@[simp] theorem v_bin (o : BOp) (a b : E) : (evE F G (.bin o a b)).v ρ h = ((evE F G a).v ρ h).bnd (fun x h1 => ((evE F G b).v ρ h1).bnd (fun y h2 => R.opt (opBin o h2 x y) h2) ⟨⟩) ⟨⟩ := id rfl
@[simp] theorem v_neg (a : E) : (evE F G (.neg a)).v ρ h = ((evE F G a).v ρ h).bnd (fun x h1 => R.opt (x.isInt.map fun i => .int (-i)) h1) ⟨⟩ := id rfl
@[simp] theorem v_cmp (o : COp) (a b : E) : (evE F G (.cmp o a b)).v ρ h = ((evE F G a).v ρ h).bnd (fun x h1 => ((evE F G b).v ρ h1).bnd (fun y h2 => (R.opt (opCmp o h2 x y) h2).bnd (fun t h3 => .ok (.bl t) h3) ⟨⟩) ⟨⟩) ⟨⟩ := by
  show _ = ((evE F G a).v ρ h).bind fun x h1 => ((evE F G b).v ρ h1).bind fun y h2 => (R.opt (opCmp o h2 x y) h2).bind fun t h3 => .ok (D.bl t) h3
  simp only [← opt_map]; rfl
@[simp] theorem v_and (a : E) (r : Es) : (evE F G (.and a r)).v ρ h = ((evE F G a).v ρ h).bnd (fun x h1 => (vBl x h1).bnd (fun t h2 => if t then (evEs F G r).an ρ h2 else .ok (.bl false) h2) ⟨⟩) ⟨⟩ := id rfl
@[simp] theorem v_or (a : E) (r : Es) : (evE F G (.or a r)).v ρ h = ((evE F G a).v ρ h).bnd (fun x h1 => (vBl x h1).bnd (fun t h2 => if t then .ok (.bl true) h2 else (evEs F G r).on ρ h2) ⟨⟩) ⟨⟩ := id rfl
@[simp] theorem v_not (a : E) : (evE F G (.not a)).v ρ h = ((evE F G a).v ρ h).bnd (fun x h1 => (vBl x h1).bnd (fun t h2 => .ok (.bl (!t)) h2) ⟨⟩) ⟨⟩ := id rfl
@[simp] theorem v_ite (c a b : E) : (evE F G (.ite c a b)).v ρ h = ((evE F G c).t ρ h).bnd (fun t h1 => if t then (evE F G a).v ρ h1 else (evE F G b).v ρ h1) ⟨⟩ := id rfl
@[simp] theorem v_idx (a i : E) : (evE F G (.idx a i)).v ρ h = ((evE F G a).v ρ h).bnd (fun x h1 => ((evE F G i).v ρ h1).bnd (fun y h2 => R.opt (opIdx h2 x y) h2) ⟨⟩) ⟨⟩ := id rfl
@[simp] theorem v_slc (a lo hi : E) : (evE F G (.slc a lo hi)).v ρ h = ((evE F G a).v ρ h).bnd (fun x h1 => (vPart lo.isMiss (evE F G lo) ρ h1).bnd (fun l h2 => (vPart hi.isMiss (evE F G hi) ρ h2).bnd (fun u h3 => R.opt (opSlc h3 x l u) h3) ⟨⟩) ⟨⟩) ⟨⟩ := id rfl
@[simp] theorem v_call (f : Nat) (es : Es) : (evE F G (.call f es)).v ρ h = ((evEs F G es).l ρ h).bnd (fun xs h1 => F f xs h1) ⟨⟩ := id rfl
@[simp] theorem v_callK (f : Nat) (es kes : Es) (ks : List Nat) : (evE F G (.callK f es kes ks)).v ρ h = ((evEs F G es).l ρ h).bnd (fun xs h1 => ((evEs F G kes).l ρ h1).bnd (fun ys h2 => F f (pmD .non ks xs ys) h2) ⟨⟩) ⟨⟩ := id rfl
@[simp] theorem v_bf (f : Bf) (es : Es) : (evE F G (.bf f es)).v ρ h = ((evEs F G es).l ρ h).bnd (fun xs h1 => R.opt (opBf f h1 xs) h1) ⟨⟩ := id rfl
@[simp] theorem v_isi (a : E) (t : Ty) : (evE F G (.isi a t)).v ρ h = ((evE F G a).v ρ h).bnd (fun x h1 => if x.isF then .bad else .ok (.bl (opIsi t h1 x)) h1) ⟨⟩ := id rfl
@[simp] theorem v_chain (o p : COp) (a b c : E) : (evE F G (.chain o p a b c)).v ρ h = ((evE F G a).v ρ h).bnd (fun x h1 => ((evE F G b).v ρ h1).bnd (fun y h2 => (R.opt (opCmp o h2 x y) h2).bnd (fun t h3 =>
      if t then ((evE F G c).v ρ h3).bnd (fun z h4 => (R.opt (opCmp p h4 y z) h4).bnd (fun t h5 => .ok (.bl t) h5) ⟨⟩) ⟨⟩ else .ok (.bl false) h3) ⟨⟩) ⟨⟩) ⟨⟩ := by
  show _ = ((evE F G a).v ρ h).bind fun x h1 => ((evE F G b).v ρ h1).bind fun y h2 => (R.opt (opCmp o h2 x y) h2).bind fun t h3 =>
      if t then ((evE F G c).v ρ h3).bind fun z h4 => (R.opt (opCmp p h4 y z) h4).bind fun t h5 => .ok (D.bl t) h5 else .ok (D.bl false) h3
  simp only [← opt_map]; rfl
@[simp] theorem v_lcc (t : Tg) (it : I) (c e : E) : (evE F G (.lc t it c e)).v ρ h = (evI F G it ρ h).bnd (fun s h1 => if sizeOk s.items.length then lcLoop s.good (lcTurn t (evE F G c) (evE F G e) ρ) s.items [] h1 else .bad) ⟨⟩ := id rfl
@[simp] theorem v_tenum (a : E) : (evE F G (.tenum a)).v ρ h = ((evE F G a).v ρ h).bnd (fun x h1 => R.opt (tenumOp x) h1) ⟨⟩ := id rfl
/-! tests -/
@[simp] theorem t_and (a : E) (r : Es) : (evE F G (.and a r)).t ρ h = ((evE F G a).t ρ h).bnd (fun t h1 => if t then (evEs F G r).at_ ρ h1 else .ok false h1) ⟨⟩ := id rfl
@[simp] theorem t_or (a : E) (r : Es) : (evE F G (.or a r)).t ρ h = ((evE F G a).t ρ h).bnd (fun t h1 => if t then .ok true h1 else (evEs F G r).ot ρ h1) ⟨⟩ := id rfl
@[simp] theorem t_not (a : E) : (evE F G (.not a)).t ρ h = ((evE F G a).t ρ h).bnd (fun t h1 => .ok (!t) h1) ⟨⟩ := id rfl
@[simp] theorem t_ite (c a b : E) : (evE F G (.ite c a b)).t ρ h = ((evE F G c).t ρ h).bnd (fun t h1 => if t then (evE F G a).t ρ h1 else (evE F G b).t ρ h1) ⟨⟩ := id rfl
theorem t_cmp0 (o : COp) (a b : E) : (evE F G (.cmp o a b)).t ρ h = ((evE F G a).v ρ h).bind fun x h1 => ((evE F G b).v ρ h1).bind fun y h2 => R.opt (opCmp o h2 x y) h2 := by
  show R.bind (R.bind ((evE F G a).v ρ h) fun x h1 => R.bind ((evE F G b).v ρ h1) fun y h2 => R.opt ((opCmp o h2 x y).map D.bl) h2) _ = _
  rw [R.bind_assoc]
  congr 1; funext x h1
  rw [R.bind_assoc]
  congr 1; funext y h2
  cases opCmp o h2 x y <;> rfl
@[simp] theorem t_cmp (o : COp) (a b : E) : (evE F G (.cmp o a b)).t ρ h = ((evE F G a).v ρ h).bnd (fun x h1 => ((evE F G b).v ρ h1).bnd (fun y h2 => R.opt (opCmp o h2 x y) h2) ⟨⟩) ⟨⟩ := t_cmp0 o a b
theorem t_isi0 (a : E) (t : Ty) : (evE F G (.isi a t)).t ρ h = ((evE F G a).v ρ h).bind fun x h1 => if x.isF then .bad else .ok (opIsi t h1 x) h1 := by
  show R.bind (R.bind ((evE F G a).v ρ h) fun x h1 => if x.isF then .bad else .ok (D.bl (opIsi t h1 x)) h1) _ = _
  rw [R.bind_assoc]
  congr 1; funext x h1
  split <;> rfl
@[simp] theorem t_isi (a : E) (t : Ty) : (evE F G (.isi a t)).t ρ h = ((evE F G a).v ρ h).bnd (fun x h1 => if x.isF then .bad else .ok (opIsi t h1 x) h1) ⟨⟩ := t_isi0 a t
@[simp] theorem t_var (i : Nat) : (evE F G (.var i)).t ρ h = ((evE F G (.var i)).v ρ h).bnd (fun x h1 => R.opt (x.tru h1) h1) ⟨⟩ := id rfl
@[simp] theorem t_con (d : D) : (evE F G (.con d)).t ρ h = R.opt (d.tru h) h := id rfl
@[simp] theorem t_idx (a i : E) : (evE F G (.idx a i)).t ρ h = ((evE F G (.idx a i)).v ρ h).bnd (fun x h1 => R.opt (x.tru h1) h1) ⟨⟩ := id rfl
@[simp] theorem t_call (f : Nat) (es : Es) : (evE F G (.call f es)).t ρ h = ((evE F G (.call f es)).v ρ h).bnd (fun x h1 => R.opt (x.tru h1) h1) ⟨⟩ := id rfl
@[simp] theorem t_callK (f : Nat) (es kes : Es) (ks : List Nat) : (evE F G (.callK f es kes ks)).t ρ h = ((evE F G (.callK f es kes ks)).v ρ h).bnd (fun x h1 => R.opt (x.tru h1) h1) ⟨⟩ := id rfl
@[simp] theorem t_bf (f : Bf) (es : Es) : (evE F G (.bf f es)).t ρ h = ((evE F G (.bf f es)).v ρ h).bnd (fun x h1 => R.opt (x.tru h1) h1) ⟨⟩ := id rfl
@[simp] theorem t_bin (o : BOp) (a b : E) : (evE F G (.bin o a b)).t ρ h = ((evE F G (.bin o a b)).v ρ h).bnd (fun x h1 => R.opt (x.tru h1) h1) ⟨⟩ := id rfl
@[simp] theorem t_chain (o p : COp) (a b c : E) : (evE F G (.chain o p a b c)).t ρ h = ((evE F G (.chain o p a b c)).v ρ h).bnd (fun x h1 => R.opt (x.tru h1) h1) ⟨⟩ := id rfl
@[simp] theorem t_slc (a b c : E) : (evE F G (.slc a b c)).t ρ h = ((evE F G (.slc a b c)).v ρ h).bnd (fun x h1 => R.opt (x.tru h1) h1) ⟨⟩ := id rfl
/-! rows -/
@[simp] theorem l_nil : (evEs F G .nil).l ρ h = .ok [] h := id rfl
@[simp] theorem l_cons (e : E) (es : Es) : (evEs F G (.cons e es)).l ρ h = ((evE F G e).v ρ h).bnd (fun x h1 => ((evEs F G es).l ρ h1).bnd (fun xs h2 => .ok (x :: xs) h2) ⟨⟩) ⟨⟩ := id rfl
@[simp] theorem an_1 (e : E) : (evEs F G (.cons e .nil)).an ρ h = (evE F G e).v ρ h := id rfl
@[simp] theorem on_1 (e : E) : (evEs F G (.cons e .nil)).on ρ h = (evE F G e).v ρ h := id rfl
@[simp] theorem at_1 (e : E) : (evEs F G (.cons e .nil)).at_ ρ h = (evE F G e).t ρ h := id rfl
@[simp] theorem ot_1 (e : E) : (evEs F G (.cons e .nil)).ot ρ h = (evE F G e).t ρ h := id rfl
@[simp] theorem an_2 (e b : E) (es : Es) : (evEs F G (.cons e (.cons b es))).an ρ h = ((evE F G e).v ρ h).bnd (fun x h1 => (vBl x h1).bnd (fun t h2 => if t then (evEs F G (.cons b es)).an ρ h2 else .ok (.bl false) h2) ⟨⟩) ⟨⟩ := id rfl
@[simp] theorem on_2 (e b : E) (es : Es) : (evEs F G (.cons e (.cons b es))).on ρ h = ((evE F G e).v ρ h).bnd (fun x h1 => (vBl x h1).bnd (fun t h2 => if t then .ok (.bl true) h2 else (evEs F G (.cons b es)).on ρ h2) ⟨⟩) ⟨⟩ := id rfl
@[simp] theorem at_2 (e b : E) (es : Es) : (evEs F G (.cons e (.cons b es))).at_ ρ h = ((evE F G e).t ρ h).bnd (fun t h1 => if t then (evEs F G (.cons b es)).at_ ρ h1 else .ok false h1) ⟨⟩ := id rfl
@[simp] theorem ot_2 (e b : E) (es : Es) : (evEs F G (.cons e (.cons b es))).ot ρ h = ((evE F G e).t ρ h).bnd (fun t h1 => if t then .ok true h1 else (evEs F G (.cons b es)).ot ρ h1) ⟨⟩ := id rfl
/-! iterators -/
@[simp] theorem i_ev (e : E) : evI F G (.ev e) ρ h = ((evE F G e).v ρ h).bnd (fun x h1 => R.opt (x.src h1) h1) ⟨⟩ := id rfl
@[simp] theorem i_rng (n : E) : evI F G (.rng n) ρ h = ((evE F G n).v ρ h).bnd (fun x h1 => R.opt (x.isInt.bind fun n => if rngOk 0 n then some ⟨rngD 0 n, none⟩ else none) h1) ⟨⟩ := id rfl
@[simp] theorem i_zip (a b : E) : evI F G (.zip a b) ρ h = ((evE F G a).v ρ h).bnd (fun x h1 => ((evE F G b).v ρ h1).bnd (fun y h2 => R.opt (zipSrc x y) h2) ⟨⟩) ⟨⟩ := id rfl
/-! statements -/
@[simp] theorem s_nil : evSs F G .nil ρ h = .nxt ρ h := id rfl
@[simp] theorem s_cons (s : S) (ss : Ss) : evSs F G (.cons s ss) ρ h = (evS F G s ρ h).thn (evSs F G ss) ⟨⟩ := id rfl
@[simp] theorem s_asg (i : Nat) (e : E) : evS F G (.asg i e) ρ h = ((evE F G e).v ρ h).thn (fun x h1 => .nxt (ρ.set i (some x)) h1) ⟨⟩ := id rfl
@[simp] theorem s_asgLc (i : Nat) (e : E) : evS F G (.asgLc i e) ρ h = ((evE F G e).v ρ h).thn (fun x h1 => .nxt (ρ.set i (some x)) h1) ⟨⟩ := id rfl
@[simp] theorem s_par (i j : Nat) (a b : E) : evS F G (.par i j a b) ρ h = ((evE F G a).v ρ h).thn (fun x h1 => ((evE F G b).v ρ h1).thn (fun y h2 => .nxt ((ρ.set i (some x)).set j (some y)) h2) ⟨⟩) ⟨⟩ := id rfl
@[simp] theorem s_unp (is : List Nat) (e : E) : evS F G (.unp is e) ρ h = ((evE F G e).v ρ h).thn (fun x h1 => RS.opt ((Tg.tu is).put x ρ) h1) ⟨⟩ := id rfl
def stoN (o : Option Hh) (ρ : Env) : RS := match o with
  | some h4 => .nxt ρ h4
  | none => .bad
@[simp] theorem stoN_some (h : Hh) (ρ : Env) : stoN (some h) ρ = .nxt ρ h := id rfl
@[simp] theorem s_sto (o i e : E) : evS F G (.sto o i e) ρ h = ((evE F G e).v ρ h).thn (fun x h1 => ((evE F G o).v ρ h1).thn (fun y h2 => ((evE F G i).v ρ h2).thn (fun z h3 => stoN (stoOp y z x h3) ρ) ⟨⟩) ⟨⟩) ⟨⟩ := id rfl
@[simp] theorem s_exp (e : E) : evS F G (.exp e) ρ h = ((evE F G e).v ρ h).thn (fun _ h1 => .nxt ρ h1) ⟨⟩ := id rfl
@[simp] theorem s_ret (e : E) : evS F G (.ret e) ρ h = ((evE F G e).v ρ h).thn (fun x h1 => .ret x h1) ⟨⟩ := id rfl
@[simp] theorem s_retN : evS F G .retN ρ h = .ret .non h := id rfl
@[simp] theorem s_ite (c : E) (a b : Ss) : evS F G (.ite c a b) ρ h = ((evE F G c).t ρ h).thn (fun t h1 => if t then evSs F G a ρ h1 else evSs F G b ρ h1) ⟨⟩ := id rfl
@[simp] theorem s_for (t : Tg) (it : I) (b : Ss) : evS F G (.for_ t it b) ρ h = (evI F G it ρ h).thn (fun s h1 => forLoop s.good t (evSs F G b) s.items ρ h1) ⟨⟩ := id rfl
@[simp] theorem s_whl (c : E) (b : Ss) : evS F G (.whl c b) ρ h = whlLoop (evE F G c).t (evSs F G b) wfuel ρ h := id rfl
def mIx (o : Option (List D)) (r : R (List D)) : R D := match o with
  | some ds => r.bind fun xs h2 => R.opt (idxD ds xs) h2
  | none => .bad
@[simp] theorem mIx_some (ds : List D) (r : R (List D)) : mIx (some ds) r = r.bnd (fun xs h2 => R.opt (idxD ds xs) h2) ⟨⟩ := id rfl
@[simp] theorem v_mthIx (o : E) (es : Es) : (evE F G (.mth .index o es)).v ρ h = ((evE F G o).v ρ h).bnd (fun x h1 => mIx x.ixs ((evEs F G es).l ρ h1)) ⟨⟩ := id rfl
@[simp] theorem v_mthAp (o : E) (es : Es) : (evE F G (.mth .append o es)).v ρ h = ((evE F G o).v ρ h).bnd (fun x h1 => if x.isL h1 then ((evEs F G es).l ρ h1).bnd (fun xs h2 => mthOp .append x xs h2) ⟨⟩ else .bad) ⟨⟩ := id rfl
@[simp] theorem v_mthPop (o : E) (es : Es) : (evE F G (.mth .pop o es)).v ρ h = ((evE F G o).v ρ h).bnd (fun x h1 => if x.isL h1 then ((evEs F G es).l ρ h1).bnd (fun xs h2 => mthOp .pop x xs h2) ⟨⟩ else .bad) ⟨⟩ := id rfl
@[simp] theorem v_mthPopA (o : E) (es : Es) : (evE F G (.mth .popAt o es)).v ρ h = ((evE F G o).v ρ h).bnd (fun x h1 => if x.isL h1 then ((evEs F G es).l ρ h1).bnd (fun xs h2 => mthOp .popAt x xs h2) ⟨⟩ else .bad) ⟨⟩ := id rfl
end
/-! operations -/
@[simp] theorem ofString_inj {a b : String} : (Str.ofString a = Str.ofString b) ↔ a = b := by
  refine ⟨fun e => ?_, fun e => by rw [e]⟩
  rw [Str.ofString_eq_toList, Str.ofString_eq_toList] at e
  have e1 : a.toList.map Char.toNat = b.toList.map Char.toNat := by
    have e2 := congrArg (fun s : Str => s.cps.toList) e
    simpa using e2
  have e3 : a.toList = b.toList := by
    have inj : ∀ (x y : List Char), x.map Char.toNat = y.map Char.toNat → x = y := by
      intro x
      induction x with
      | nil => intro y h; cases y with | nil => rfl | cons _ _ => simp at h
      | cons c x ih =>
        intro y h
        cases y with
        | nil => simp at h
        | cons d y =>
          (simp only [List.map_cons, List.cons.injEq] at h)
          rw [ih y h.2, Char.ext (UInt32.toNat_inj.mp h.1)]
    exact inj _ _ e1
  exact String.toList_inj.mp e3
section
variable {α : Type} {a b c d e : α} {xs : List α} {h : Hh}
@[simp] theorem atI_0 : L2.atI (a :: xs) 0 = some a := L2.atI_nat (j := 0) rfl
@[simp] theorem atI_1 : L2.atI (a :: b :: xs) 1 = some b := L2.atI_nat (j := 1) rfl
@[simp] theorem atI_2 : L2.atI (a :: b :: c :: xs) 2 = some c := L2.atI_nat (j := 2) rfl
@[simp] theorem atI_3 : L2.atI (a :: b :: c :: d :: xs) 3 = some d := L2.atI_nat (j := 3) rfl
@[simp] theorem atI_4 : L2.atI (a :: b :: c :: d :: e :: xs) 4 = some e := L2.atI_nat (j := 4) rfl
@[simp] theorem sizeOk_le {n : Nat} : sizeOk n = decide (n ≤ 16777216) := id rfl
@[simp] theorem bin_addI (i j : Int) : opBin .add h (.int i) (.int j) = some (.int (i + j)) := id rfl
@[simp] theorem bin_subI (i j : Int) : opBin .sub h (.int i) (.int j) = some (.int (i - j)) := id rfl
@[simp] theorem bin_addT (xs ys : List D) : opBin .add h (.tup xs) (.tup ys) = if sizeOk (xs.length + ys.length) then some (.tup (xs ++ ys)) else none := id rfl
@[simp] theorem bin_addL (xs ys : List D) : opBin .add h (.lst xs) (.lst ys) = if sizeOk (xs.length + ys.length) then some (.lst (xs ++ ys)) else none := id rfl
@[simp] theorem cmp_ltI (i j : Int) : opCmp .lt h (.int i) (.int j) = some (decide (i < j)) := id rfl
@[simp] theorem cmp_leI (i j : Int) : opCmp .le h (.int i) (.int j) = some (decide (i ≤ j)) := id rfl
@[simp] theorem cmp_gtI (i j : Int) : opCmp .gt h (.int i) (.int j) = some (decide (j < i)) := id rfl
@[simp] theorem cmp_geI (i j : Int) : opCmp .ge h (.int i) (.int j) = some (decide (j ≤ i)) := id rfl
@[simp] theorem cmp_eqS (x y : Str) : opCmp .eq h (.str x) (.str y) = some (decide (x = y)) := id rfl
@[simp] theorem cmp_neS (x y : Str) : opCmp .ne h (.str x) (.str y) = some (!decide (x = y)) := id rfl
@[simp] theorem cmp_eqI (i j : Int) : opCmp .eq h (.int i) (.int j) = some (i == j) := id rfl
@[simp] theorem cmp_neI (i j : Int) : opCmp .ne h (.int i) (.int j) = some (!(i == j)) := id rfl
@[simp] theorem cmp_eqB (i j : Bool) : opCmp .eq h (.bl i) (.bl j) = some (i == j) := by cases i <;> cases j <;> rfl
@[simp] theorem cmp_neB (i j : Bool) : opCmp .ne h (.bl i) (.bl j) = some (!(i == j)) := by cases i <;> cases j <;> rfl
@[simp] theorem cmp_isN (x : D) : opCmp .is h x .non = some x.isNon := id rfl
@[simp] theorem cmp_isB (x : D) (b : Bool) : opCmp .is h x (.bl b) = some (x.eqBl b) := id rfl
@[simp] theorem cmp_isnN (x : D) : opCmp .isn h x .non = some (!x.isNon) := id rfl
@[simp] theorem idx_tup (xs : List D) (i : Int) : opIdx h (.tup xs) (.int i) = L2.atI xs i := id rfl
@[simp] theorem idx_lst (xs : List D) (i : Int) : opIdx h (.lst xs) (.int i) = L2.atI xs i := id rfl
@[simp] theorem idx_fz (xs : List D) (i : Int) : opIdx h (.fz xs) (.int i) = L2.atI xs i := id rfl
@[simp] theorem vBl_bl (b : Bool) : vBl (.bl b) h = .ok b h := id rfl
@[simp] theorem tru_bl (b : Bool) : (D.bl b).tru h = some b := id rfl
@[simp] theorem tru_int (i : Int) : (D.int i).tru h = some (i != 0) := id rfl
@[simp] theorem tru_tup (xs : List D) : (D.tup xs).tru h = some (!xs.isEmpty) := id rfl
@[simp] theorem src_tup (xs : List D) : (D.tup xs).src h = some ⟨xs, none⟩ := id rfl
@[simp] theorem src_lst (xs : List D) : (D.lst xs).src h = some ⟨xs, none⟩ := id rfl
@[simp] theorem src_fz (xs : List D) : (D.fz xs).src h = some ⟨xs, none⟩ := id rfl
@[simp] theorem good_none (xs : List D) : (Src.mk xs none).good h = true := id rfl
@[simp] theorem goodf_none (xs : List D) : (Src.mk xs none).good = fun _ => true := id rfl
@[simp] theorem isI_int (i : Int) : (D.int i).isInt = some i := id rfl
@[simp] theorem bf_tupL (xs : List D) : opBf .tuple h [.lst xs] = some (.tup xs) := id rfl
@[simp] theorem bf_tupT (xs : List D) : opBf .tuple h [.tup xs] = some (.tup xs) := id rfl
@[simp] theorem bf_lenT (xs : List D) : opBf .len h [.tup xs] = some (.int xs.length) := id rfl
@[simp] theorem bf_lenL (xs : List D) : opBf .len h [.lst xs] = some (.int xs.length) := id rfl
@[simp] theorem bf_lenF (xs : List D) : opBf .len h [.fz xs] = some (.int xs.length) := id rfl
@[simp] theorem bf_intI (i : Int) : opBf .int h [.int i] = some (.int i) := id rfl
@[simp] theorem bf_intB (b : Bool) : opBf .int h [.bl b] = some (.int (if b then 1 else 0)) := id rfl
@[simp] theorem zip_tt (xs ys : List D) : zipSrc (.tup xs) (.tup ys) = some ⟨zipD xs ys, none⟩ := id rfl
@[simp] theorem zip_ll (xs ys : List D) : zipSrc (.lst xs) (.lst ys) = some ⟨zipD xs ys, none⟩ := id rfl
@[simp] theorem part_miss (p : P) (ρ : Env) : vPart true p ρ h = .ok none h := id rfl
@[simp] theorem part_some (p : P) (ρ : Env) : vPart false p ρ h = (p.v ρ h).bind fun d h1 => R.opt (d.isInt.map some) h1 := id rfl
@[simp] theorem miss_t : E.isMiss .miss = true := id rfl
@[simp] theorem miss_con (d : D) : E.isMiss (.con d) = false := id rfl
@[simp] theorem miss_var (d : Nat) : E.isMiss (.var d) = false := id rfl
@[simp] theorem miss_bin (o a b) : E.isMiss (.bin o a b) = false := id rfl
@[simp] theorem miss_neg (a) : E.isMiss (.neg a) = false := id rfl
@[simp] theorem in_nil (x : D) : opCmp .inn h x (.tup []) = (if x.shp then some false else none) := by
  show (if x.shp && (D.tup []).shp then some false else none) = _
  have : (D.tup []).shp = true := by decide
  rw [this, Bool.and_true]
@[simp] theorem strOk_lit (s : String) : PyData.strOk (Str.ofString s) = true := by
  rw [Str.ofString_eq_toList]
  unfold PyData.strOk
  simp only [List.all_toArray, List.all_map, List.all_eq_true, Function.comp]
  intro c _
  have hv : c.val.toNat.isValidChar := c.valid
  have : c.val.toNat < 1114112 := by
    rcases hv with z | z
    · omega
    · exact z.2
  exact decide_eq_true this
@[simp] theorem eqv_str (x y : Str) : (D.str x).eqv (.str y) = decide (x = y) := id rfl
@[simp] theorem eqv_int (x y : Int) : (D.int x).eqv (.int y) = (x == y) := id rfl
@[simp] theorem shp_str (x : Str) : (D.str x).shp = PyData.strOk x := by unfold D.shp D.lay D.dep; simp
@[simp] theorem shp_int (x : Int) : (D.int x).shp = true := id rfl
@[simp] theorem shp_bl (x : Bool) : (D.bl x).shp = true := id rfl
@[simp] theorem shp_non : D.non.shp = true := id rfl
theorem deps_le {n : Nat} : ∀ {xs : List D}, D.deps xs ≤ n ↔ ∀ x ∈ xs, x.dep ≤ n
  | [] => by simp [D.deps]
  | x :: xs => by simp [D.deps, Nat.max_le, deps_le (xs := xs)]
theorem lays_iff : ∀ {xs : List D}, D.lays xs = true ↔ ∀ x ∈ xs, x.lay = true
  | [] => by simp [D.lays]
  | x :: xs => by simp [D.lays, lays_iff (xs := xs)]
/-- a flat thing -/
def D.flat : D → Bool
  | .str x => PyData.strOk x
  | .int _ => true
  | .bl _ => true
  | .non => true
  | _ => false
theorem shp_flats {xs : List D} (h : xs.all D.flat = true) : (D.tup xs).shp = true := by
  have q : ∀ x ∈ xs, x.lay = true ∧ x.dep = 0 := fun x hx => by
    have := List.all_eq_true.mp h x hx
    cases x <;> first | exact ⟨rfl, rfl⟩ | exact ⟨this, rfl⟩ | cases this
  unfold D.shp D.lay D.dep
  rw [lays_iff.mpr fun x hx => (q x hx).1, Bool.true_and]
  have : D.deps xs ≤ 0 := deps_le.mpr fun x hx => Nat.le_of_eq (q x hx).2
  (exact decide_eq_true (by omega))
@[simp] theorem shp_strs0 : (D.tup []).shp = true := by decide
@[simp] theorem flat_str (x : Str) : (D.str x).flat = PyData.strOk x := id rfl
@[simp] theorem flat_int (x : Int) : (D.int x).flat = true := id rfl
theorem in_tup (x : D) (ys : List D) : opCmp .inn h x (.tup ys) = if x.shp && (D.tup ys).shp then some (ys.any fun y => y.eqv x) else none := id rfl
theorem nin_eq (x : D) (y : D) : opCmp .nin h x y = (opCmp .inn h x y).map (!·) := id rfl
@[simp] theorem in_strs1 (x y : Str) : opCmp .inn h (.str x) (.tup [.str y]) = if PyData.strOk x && (D.tup [.str y]).shp then some (decide (y = x)) else none := by rw [in_tup]; simp
@[simp] theorem in_strs2 (x : Str) (a b : String) : opCmp .inn h (.str x) (.tup [.str (.ofString a), .str (.ofString b)]) = if PyData.strOk x then some (decide (Str.ofString a = x) || decide (Str.ofString b = x)) else none := by rw [in_tup, shp_flats (by simp)]; simp
@[simp] theorem in_strs3 (x : Str) (a b c : String) : opCmp .inn h (.str x) (.tup [.str (.ofString a), .str (.ofString b), .str (.ofString c)]) = if PyData.strOk x then some (decide (Str.ofString a = x) || (decide (Str.ofString b = x) || decide (Str.ofString c = x))) else none := by rw [in_tup, shp_flats (by simp)]; simp
@[simp] theorem nin_strs2 (x : Str) (a b : String) : opCmp .nin h (.str x) (.tup [.str (.ofString a), .str (.ofString b)]) = if PyData.strOk x then some (!(decide (Str.ofString a = x) || decide (Str.ofString b = x))) else none := by rw [nin_eq, in_strs2]; split <;> rfl
@[simp] theorem nin_strs3 (x : Str) (a b c : String) : opCmp .nin h (.str x) (.tup [.str (.ofString a), .str (.ofString b), .str (.ofString c)]) = if PyData.strOk x then some (!(decide (Str.ofString a = x) || (decide (Str.ofString b = x) || decide (Str.ofString c = x)))) else none := by rw [nin_eq, in_strs3]; split <;> rfl
@[simp] theorem opt_ite {c : Prop} [Decidable c] {o p : Option α} : R.opt (if c then o else p) h = if c then R.opt o h else R.opt p h := by split <;> rfl
@[simp] theorem slc_tup (xs : List D) (l u : Option Int) : opSlc h (.tup xs) l u = some (.tup (cutD xs l u)) := id rfl
@[simp] theorem slc_lst (xs : List D) (l u : Option Int) : opSlc h (.lst xs) l u = some (.lst (cutD xs l u)) := id rfl
@[simp] theorem cut_1 (x : D) (xs : List D) : cutD (x :: xs) (some 1) none = xs := by
  have e : HT.sIx (xs.length + 1) 0 (some 1) = 1 := by show min (1 : Int).toNat (xs.length + 1) = 1; simp
  unfold cutD; simp only [List.length_cons, e, HT.sIx_none, List.drop_succ_cons, List.drop_zero, Nat.add_sub_cancel, List.take_length]
@[simp] theorem cut_2 (x y : D) (xs : List D) : cutD (x :: y :: xs) (some 2) none = xs := by
  have e : HT.sIx (xs.length + 1 + 1) 0 (some 2) = 2 := by show min (2 : Int).toNat (xs.length + 1 + 1) = 2; simp
  unfold cutD; simp only [List.length_cons, e, HT.sIx_none, List.drop_succ_cons, List.drop_zero]
  rw [show xs.length + 1 + 1 - 2 = xs.length from by omega, List.take_length]
@[simp] theorem cut_3 (x y z : D) (xs : List D) : cutD (x :: y :: z :: xs) (some 3) none = xs := by
  have e : HT.sIx (xs.length + 1 + 1 + 1) 0 (some 3) = 3 := by show min (3 : Int).toNat (xs.length + 1 + 1 + 1) = 3; simp
  unfold cutD; simp only [List.length_cons, e, HT.sIx_none, List.drop_succ_cons, List.drop_zero]
  rw [show xs.length + 1 + 1 + 1 - 3 = xs.length from by omega, List.take_length]
theorem cut_all (xs : List D) : cutD xs none none = xs := by
  unfold cutD; simp only [HT.sIx_none, List.drop_zero, Nat.sub_zero, List.take_length]
theorem cut_take (xs : List D) (n : Nat) : cutD xs none (some (n : Int)) = xs.take n := by
  unfold cutD; rw [HT.sIx_none, HT.sIx_nat, List.drop_zero, Nat.sub_zero, List.take_eq_take_iff]; omega
theorem cut_drop (xs : List D) (n : Nat) : cutD xs (some (n : Int)) none = xs.drop n := by
  unfold cutD; rw [HT.sIx_none, HT.sIx_nat]
  by_cases hn : n ≤ xs.length
  · rw [Nat.min_eq_left hn, List.take_of_length_le (by simp)]
  · rw [Nat.min_eq_right (by omega), List.drop_of_length_le (Nat.le_refl _), List.drop_of_length_le (by omega), List.take_nil]
@[simp] theorem cut_init (xs : List D) (x : D) : cutD (xs ++ [x]) none (some (-1)) = xs := by
  have e : HT.sIx (xs ++ [x]).length (xs ++ [x]).length (some (-1)) = xs.length := by
    show ((-1 : Int) + ((xs ++ [x]).length : Int)).toNat = _
    rw [List.length_append]; simp only [List.length_cons, List.length_nil]; omega
  unfold cutD
  rw [e, HT.sIx_none, List.drop_zero, Nat.sub_zero, List.take_left']
  rfl
@[simp] theorem atI_last (xs : List α) (v : α) : L2.atI (xs ++ [v]) (-1) = some v := L2.atI_last xs v
end
end PV
end

section
set_option maxRecDepth 100000
namespace K70
open PySem PySem.Spec PyProof.Rows L2 PV
abbrev b_is_integer : Ss := .cons (.ret (.and (.isi (.var 0) .int) (.cons (.not (.isi (.var 0) .bl)) .nil))) .nil
abbrev f_is_integer : Fn := { name := "is_integer", N := ["value"], P := ["value"], frz := false, body := b_is_integer }
abbrev b_is_tuple_of : Ss := .cons (.ret (.and (.isi (.var 1) .tup) (.cons (.cmp .eq (.bf .len (.cons (.var 1) .nil)) (.var 0)) .nil))) .nil
abbrev f_is_tuple_of : Fn := { name := "is_tuple_of", N := ["length", "value"], P := ["length", "value"], frz := false, body := b_is_tuple_of }
abbrev i_is_kinds_0 : I := .ev (.var 0)
abbrev x_is_kinds_0 : E := .and (.isi (.var 1) .tup) (.cons (.cmp .ne (.var 1) (.tup (.nil))) .nil)
abbrev c_is_kinds_0 : E := .miss
abbrev e_is_kinds_0 : E := .lc (.v 1) i_is_kinds_0 c_is_kinds_0 x_is_kinds_0
abbrev i_is_kinds_1 : I := .ev (.var 0)
abbrev x_is_kinds_1 : E := .isi (.idx (.var 1) (.con (.int 0))) .str
abbrev c_is_kinds_1 : E := .miss
abbrev e_is_kinds_1 : E := .lc (.v 1) i_is_kinds_1 c_is_kinds_1 x_is_kinds_1
abbrev b_is_kinds : Ss := .cons (.ite (.or (.not (.isi (.var 0) .tup)) (.cons (.not (.bf .all (.cons (e_is_kinds_0) .nil))) .nil)) (.cons (.ret (.con (.bl false))) .nil) (.nil)) (.cons (.ret (.bf .all (.cons (e_is_kinds_1) .nil))) .nil)
abbrev f_is_kinds : Fn := { name := "is_kinds", N := ["value", "k"], P := ["value"], frz := false, body := b_is_kinds }
abbrev i_is_pairs_0 : I := .ev (.var 0)
abbrev x_is_pairs_0 : E := .call 1 (.cons (.con (.int 2)) (.cons (.var 1) .nil))
abbrev c_is_pairs_0 : E := .miss
abbrev e_is_pairs_0 : E := .lc (.v 1) i_is_pairs_0 c_is_pairs_0 x_is_pairs_0
abbrev b_is_pairs : Ss := .cons (.ret (.and (.isi (.var 0) .tup) (.cons (.bf .all (.cons (e_is_pairs_0) .nil)) .nil))) .nil
abbrev f_is_pairs : Fn := { name := "is_pairs", N := ["value", "pair"], P := ["value"], frz := false, body := b_is_pairs }
abbrev i_has_form_0 : I := .ev (.idx (.var 2) (.con (.int 0)))
abbrev x_has_form_0 : E := .isi (.idx (.var 3) (.con (.int 1))) .bl
abbrev c_has_form_0 : E := .miss
abbrev e_has_form_0 : E := .lc (.v 3) i_has_form_0 c_has_form_0 x_has_form_0
abbrev i_has_form_1 : I := .ev (.idx (.var 2) (.con (.int 1)))
abbrev x_has_form_1 : E := .idx (.var 3) (.con (.int 0))
abbrev c_has_form_1 : E := .miss
abbrev e_has_form_1 : E := .lc (.v 3) i_has_form_1 c_has_form_1 x_has_form_1
abbrev b_has_form : Ss := .cons (.par 1 2 (.idx (.var 0) (.con (.int 0))) (.slc (.var 0) (.con (.int 1)) (.miss))) (.cons (.ite (.cmp .eq (.var 1) (.con (.str "int"))) (.cons (.ret (.cmp .eq (.var 2) (.tup (.nil)))) .nil) (.nil)) (.cons (.ite (.cmp .inn (.var 1) (.tup (.cons (.con (.str "free")) (.cons (.con (.str "var")) .nil)))) (.cons (.ret (.and (.cmp .eq (.bf .len (.cons (.var 2) .nil)) (.con (.int 1))) (.cons (.call 0 (.cons (.idx (.var 2) (.con (.int 0))) .nil)) (.cons (.cmp .ge (.idx (.var 2) (.con (.int 0))) (.con (.int 0))) .nil)))) .nil) (.nil)) (.cons (.ite (.cmp .inn (.var 1) (.tup (.cons (.con (.str "cell")) (.cons (.con (.str "some")) (.cons (.con (.str "rec")) .nil))))) (.cons (.ret (.and (.cmp .eq (.bf .len (.cons (.var 2) .nil)) (.con (.int 1))) (.cons (.call 2 (.cons (.var 2) .nil)) (.cons (.or (.cmp .ne (.var 1) (.con (.str "rec"))) (.cons (.cmp .nin (.idx (.idx (.var 2) (.con (.int 0))) (.con (.int 0))) (.tup (.cons (.con (.str "free")) (.cons (.con (.str "var")) .nil)))) .nil)) .nil)))) .nil) (.nil)) (.cons (.ite (.cmp .inn (.var 1) (.tup (.cons (.con (.str "row")) (.cons (.con (.str "one")) .nil)))) (.cons (.ret (.and (.cmp .eq (.bf .len (.cons (.var 2) .nil)) (.con (.int 1))) (.cons (.call 2 (.cons (.idx (.var 2) (.con (.int 0))) .nil)) (.cons (.or (.cmp .eq (.var 1) (.con (.str "row"))) (.cons (.cmp .ne (.idx (.var 2) (.con (.int 0))) (.tup (.nil))) .nil)) .nil)))) .nil) (.nil)) (.cons (.ite (.cmp .eq (.var 1) (.con (.str "room"))) (.cons (.ret (.and (.cmp .eq (.bf .len (.cons (.var 2) .nil)) (.con (.int 1))) (.cons (.call 3 (.cons (.idx (.var 2) (.con (.int 0))) .nil)) (.cons (.bf .all (.cons (e_has_form_0) .nil)) .nil)))) .nil) (.nil)) (.cons (.ite (.or (.cmp .nin (.var 1) (.tup (.cons (.con (.str "not")) (.cons (.con (.str "to")) (.cons (.con (.str "code")) .nil))))) (.cons (.cmp .ne (.bf .len (.cons (.var 2) .nil)) (.bin .add (.con (.int 2)) (.bf .int (.cons (.cmp .eq (.var 1) (.con (.str "to"))) .nil)))) .nil)) (.cons (.ret (.con (.bl false))) .nil) (.nil)) (.cons (.ite (.or (.not (.call 0 (.cons (.idx (.var 2) (.con (.int 0))) .nil))) (.cons (.not (.chain .le .le (.con (.int 0)) (.idx (.var 2) (.con (.int 0))) (.glo 0))) .nil)) (.cons (.ret (.con (.bl false))) .nil) (.nil)) (.cons (.ite (.cmp .eq (.var 1) (.con (.str "code"))) (.cons (.ret (.and (.call 3 (.cons (.idx (.var 2) (.con (.int 1))) .nil)) (.cons (.call 5 (.cons (e_has_form_1) .nil)) .nil))) .nil) (.nil)) (.cons (.ret (.and (.call 2 (.cons (.idx (.var 2) (.con (.int 1))) .nil)) (.cons (.call 2 (.cons (.slc (.var 2) (.con (.int 2)) (.miss)) .nil)) .nil))) .nil)))))))))
abbrev f_has_form : Fn := { name := "has_form", N := ["value", "word", "rest", "pair"], P := ["value"], frz := false, body := b_has_form }
abbrev i_is_rising_0 : I := .ev (.var 0)
abbrev x_is_rising_0 : E := .and (.call 0 (.cons (.var 1) .nil)) (.cons (.cmp .ge (.var 1) (.con (.int 0))) .nil)
abbrev c_is_rising_0 : E := .miss
abbrev e_is_rising_0 : E := .lc (.v 1) i_is_rising_0 c_is_rising_0 x_is_rising_0
abbrev i_is_rising_1 : I := .rng (.bin .sub (.bf .len (.cons (.var 0) .nil)) (.con (.int 1)))
abbrev x_is_rising_1 : E := .cmp .lt (.idx (.var 0) (.var 2)) (.idx (.var 0) (.bin .add (.var 2) (.con (.int 1))))
abbrev c_is_rising_1 : E := .miss
abbrev e_is_rising_1 : E := .lc (.v 2) i_is_rising_1 c_is_rising_1 x_is_rising_1
abbrev b_is_rising : Ss := .cons (.ite (.not (.bf .all (.cons (e_is_rising_0) .nil))) (.cons (.ret (.con (.bl false))) .nil) (.nil)) (.cons (.ret (.bf .all (.cons (e_is_rising_1) .nil))) .nil)
abbrev f_is_rising : Fn := { name := "is_rising", N := ["numbers", "number", "k"], P := ["numbers"], frz := false, body := b_is_rising }
abbrev i_insides_0 : I := .ev (.idx (.var 0) (.con (.int 1)))
abbrev x_insides_0 : E := .var 2
abbrev c_insides_0 : E := .miss
abbrev e_insides_0 : E := .lc (.tu [2, 3]) i_insides_0 c_insides_0 x_insides_0
abbrev i_insides_1 : I := .ev (.idx (.var 0) (.con (.int 2)))
abbrev x_insides_1 : E := .var 2
abbrev c_insides_1 : E := .miss
abbrev e_insides_1 : E := .lc (.tu [4, 2]) i_insides_1 c_insides_1 x_insides_1
abbrev b_insides : Ss := .cons (.asg 1 (.idx (.var 0) (.con (.int 0)))) (.cons (.ite (.cmp .inn (.var 1) (.tup (.cons (.con (.str "cell")) (.cons (.con (.str "some")) (.cons (.con (.str "rec")) .nil))))) (.cons (.ret (.tup (.cons (.idx (.var 0) (.con (.int 1))) .nil))) .nil) (.nil)) (.cons (.ite (.cmp .inn (.var 1) (.tup (.cons (.con (.str "row")) (.cons (.con (.str "one")) .nil)))) (.cons (.ret (.idx (.var 0) (.con (.int 1)))) .nil) (.nil)) (.cons (.ite (.cmp .eq (.var 1) (.con (.str "room"))) (.cons (.ret (.bf .tuple (.cons (e_insides_0) .nil))) .nil) (.nil)) (.cons (.ite (.cmp .eq (.var 1) (.con (.str "code"))) (.cons (.ret (.bf .tuple (.cons (e_insides_1) .nil))) .nil) (.nil)) (.cons (.ite (.cmp .eq (.var 1) (.con (.str "to"))) (.cons (.ret (.bin .add (.idx (.var 0) (.con (.int 2))) (.tup (.cons (.idx (.var 0) (.con (.int 3))) .nil)))) .nil) (.nil)) (.cons (.ret (.ite (.cmp .eq (.var 1) (.con (.str "not"))) (.idx (.var 0) (.con (.int 2))) (.tup (.nil)))) .nil))))))
abbrev f_insides : Fn := { name := "insides", N := ["kind", "word", "k", "is_set", "spot"], P := ["kind"], frz := false, body := b_insides }
abbrev b_binds : Ss := .cons (.ite (.cmp .inn (.idx (.var 0) (.con (.int 0))) (.tup (.cons (.con (.str "some")) (.cons (.con (.str "rec")) .nil)))) (.cons (.ret (.con (.int 1))) .nil) (.nil)) (.cons (.ret (.ite (.cmp .inn (.idx (.var 0) (.con (.int 0))) (.tup (.cons (.con (.str "not")) (.cons (.con (.str "to")) (.cons (.con (.str "code")) .nil))))) (.idx (.var 0) (.con (.int 1))) (.con (.int 0)))) .nil)
abbrev f_binds : Fn := { name := "binds", N := ["kind"], P := ["kind"], frz := false, body := b_binds }
abbrev i_with_insides_0 : I := .zip (.var 1) (.idx (.var 0) (.con (.int 1)))
abbrev x_with_insides_0 : E := .tup (.cons (.var 3) (.cons (.idx (.var 4) (.con (.int 1))) .nil))
abbrev c_with_insides_0 : E := .miss
abbrev e_with_insides_0 : E := .lc (.tu [3, 4]) i_with_insides_0 c_with_insides_0 x_with_insides_0
abbrev i_with_insides_1 : I := .zip (.var 1) (.idx (.var 0) (.con (.int 2)))
abbrev x_with_insides_1 : E := .tup (.cons (.idx (.var 4) (.con (.int 0))) (.cons (.var 3) .nil))
abbrev c_with_insides_1 : E := .miss
abbrev e_with_insides_1 : E := .lc (.tu [3, 4]) i_with_insides_1 c_with_insides_1 x_with_insides_1
abbrev b_with_insides : Ss := .cons (.asg 2 (.idx (.var 0) (.con (.int 0)))) (.cons (.ite (.cmp .inn (.var 2) (.tup (.cons (.con (.str "cell")) (.cons (.con (.str "some")) (.cons (.con (.str "rec")) .nil))))) (.cons (.ret (.tup (.cons (.var 2) (.cons (.idx (.var 1) (.con (.int 0))) .nil)))) .nil) (.nil)) (.cons (.ite (.cmp .inn (.var 2) (.tup (.cons (.con (.str "row")) (.cons (.con (.str "one")) .nil)))) (.cons (.ret (.tup (.cons (.var 2) (.cons (.var 1) .nil)))) .nil) (.nil)) (.cons (.ite (.cmp .eq (.var 2) (.con (.str "room"))) (.cons (.ret (.tup (.cons (.con (.str "room")) (.cons (.bf .tuple (.cons (e_with_insides_0) .nil)) .nil)))) .nil) (.nil)) (.cons (.ite (.cmp .eq (.var 2) (.con (.str "code"))) (.cons (.ret (.tup (.cons (.con (.str "code")) (.cons (.idx (.var 0) (.con (.int 1))) (.cons (.bf .tuple (.cons (e_with_insides_1) .nil)) .nil))))) .nil) (.nil)) (.cons (.ite (.cmp .eq (.var 2) (.con (.str "to"))) (.cons (.ret (.tup (.cons (.con (.str "to")) (.cons (.idx (.var 0) (.con (.int 1))) (.cons (.slc (.var 1) (.miss) (.neg (.con (.int 1)))) (.cons (.idx (.var 1) (.neg (.con (.int 1)))) .nil)))))) .nil) (.nil)) (.cons (.ret (.ite (.cmp .eq (.var 2) (.con (.str "not"))) (.tup (.cons (.con (.str "not")) (.cons (.idx (.var 0) (.con (.int 1))) (.cons (.var 1) .nil)))) (.var 0))) .nil))))))
abbrev f_with_insides : Fn := { name := "with_insides", N := ["kind", "new", "word", "k", "pair"], P := ["kind", "new"], frz := false, body := b_with_insides }
abbrev i_is_kind_below_0 : I := .ev (.call 6 (.cons (.var 0) .nil))
abbrev x_is_kind_below_0 : E := .call 9 (.cons (.var 4) (.cons (.var 1) (.cons (.bin .add (.var 2) (.call 7 (.cons (.var 0) .nil))) (.cons (.var 3) .nil))))
abbrev c_is_kind_below_0 : E := .miss
abbrev e_is_kind_below_0 : E := .lc (.v 4) i_is_kind_below_0 c_is_kind_below_0 x_is_kind_below_0
abbrev b_is_kind_below : Ss := .cons (.ite (.or (.not (.call 2 (.cons (.tup (.cons (.var 0) .nil)) .nil))) (.cons (.cmp .nin (.idx (.var 0) (.con (.int 0))) (.bin .add (.var 3) (.tup (.cons (.con (.str "free")) (.cons (.con (.str "var")) .nil))))) (.cons (.not (.call 4 (.cons (.var 0) .nil))) .nil))) (.cons (.ret (.con (.bl false))) .nil) (.nil)) (.cons (.ite (.cmp .inn (.idx (.var 0) (.con (.int 0))) (.tup (.cons (.con (.str "free")) (.cons (.con (.str "var")) .nil)))) (.cons (.ret (.cmp .lt (.idx (.var 0) (.con (.int 1))) (.ite (.cmp .eq (.idx (.var 0) (.con (.int 0))) (.con (.str "free"))) (.var 1) (.var 2)))) .nil) (.nil)) (.cons (.ret (.bf .all (.cons (e_is_kind_below_0) .nil))) .nil))
abbrev f_is_kind_below : Fn := { name := "is_kind_below", N := ["value", "free", "under", "words", "k"], P := ["value", "free", "under", "words"], frz := false, body := b_is_kind_below }
abbrev b_is_kind : Ss := .cons (.ret (.call 9 (.cons (.var 1) (.cons (.var 0) (.cons (.con (.int 0)) (.cons (.var 2) .nil)))))) .nil
abbrev f_is_kind : Fn := { name := "is_kind", N := ["free", "value", "words"], P := ["free", "value", "words"], frz := false, body := b_is_kind }
abbrev i_put_below_0 : I := .ev (.call 6 (.cons (.var 0) .nil))
abbrev x_put_below_0 : E := .call 11 (.cons (.var 5) (.cons (.var 4) (.cons (.var 2) .nil)))
abbrev c_put_below_0 : E := .miss
abbrev e_put_below_0 : E := .lc (.v 5) i_put_below_0 c_put_below_0 x_put_below_0
abbrev b_put_below : Ss := .cons (.ite (.cmp .eq (.idx (.var 0) (.con (.int 0))) (.con (.str "var"))) (.cons (.asg 3 (.bin .sub (.idx (.var 0) (.con (.int 1))) (.var 1))) (.cons (.ite (.cmp .lt (.var 3) (.con (.int 0))) (.cons (.ret (.var 0)) .nil) (.nil)) (.cons (.ret (.ite (.cmp .lt (.var 3) (.bf .len (.cons (.var 2) .nil))) (.idx (.var 2) (.var 3)) (.tup (.cons (.con (.str "var")) (.cons (.bin .sub (.idx (.var 0) (.con (.int 1))) (.bf .len (.cons (.var 2) .nil))) .nil))))) .nil))) (.nil)) (.cons (.asg 4 (.bin .add (.var 1) (.call 7 (.cons (.var 0) .nil)))) (.cons (.ret (.call 8 (.cons (.var 0) (.cons (.bf .tuple (.cons (e_put_below_0) .nil)) .nil)))) .nil))
abbrev f_put_below : Fn := { name := "put_below", N := ["kind", "under", "kinds", "at", "more", "k"], P := ["kind", "under", "kinds"], frz := false, body := b_put_below }
abbrev i_opened_0 : I := .ev (.call 6 (.cons (.var 0) .nil))
abbrev x_opened_0 : E := .call 11 (.cons (.var 3) (.cons (.con (.int 0)) (.cons (.var 1) .nil)))
abbrev c_opened_0 : E := .miss
abbrev e_opened_0 : E := .lc (.v 3) i_opened_0 c_opened_0 x_opened_0
abbrev b_opened : Ss := .cons (.asg 2 (.call 8 (.cons (.var 0) (.cons (.bf .tuple (.cons (e_opened_0) .nil)) .nil)))) (.cons (.ite (.cmp .inn (.idx (.var 0) (.con (.int 0))) (.tup (.cons (.con (.str "some")) (.cons (.con (.str "rec")) .nil)))) (.cons (.ret (.idx (.var 2) (.con (.int 1)))) .nil) (.nil)) (.cons (.ret (.ite (.cmp .eq (.idx (.var 0) (.con (.int 0))) (.con (.str "to"))) (.tup (.cons (.idx (.var 2) (.con (.int 2))) (.cons (.idx (.var 2) (.con (.int 3))) .nil))) (.idx (.var 2) (.con (.int 2))))) .nil))
abbrev f_opened : Fn := { name := "opened", N := ["kind", "kinds", "inside", "k"], P := ["kind", "kinds"], frz := false, body := b_opened, kw := [(0, ["kind", "kinds"], [0, 1])] }
abbrev i_opened_first_0 : I := .ev (.call 6 (.cons (.var 0) .nil))
abbrev x_opened_first_0 : E := .call 11 (.cons (.var 4) (.cons (.con (.int 0)) (.cons (.var 1) .nil)))
abbrev c_opened_first_0 : E := .miss
abbrev e_opened_first_0 : E := .lc (.v 4) i_opened_first_0 c_opened_first_0 x_opened_first_0
abbrev b_opened_first : Ss := .cons (.asg 2 (.bin .sub (.idx (.var 0) (.con (.int 1))) (.bf .len (.cons (.var 1) .nil)))) (.cons (.asg 3 (.call 8 (.cons (.var 0) (.cons (.bf .tuple (.cons (e_opened_first_0) .nil)) .nil)))) (.cons (.ret (.bin .add (.tup (.cons (.idx (.var 0) (.con (.int 0))) (.cons (.var 2) .nil))) (.slc (.var 3) (.con (.int 2)) (.miss)))) .nil))
abbrev f_opened_first : Fn := { name := "opened_first", N := ["kind", "kinds", "left", "changed", "k"], P := ["kind", "kinds"], frz := false, body := b_opened_first, kw := [(0, ["kinds", "kind"], [1, 0])] }
abbrev i_shut_below_0 : I := .ev (.call 6 (.cons (.var 0) .nil))
abbrev x_shut_below_0 : E := .call 14 (.cons (.var 4) (.cons (.var 3) (.cons (.var 2) .nil)))
abbrev c_shut_below_0 : E := .miss
abbrev e_shut_below_0 : E := .lc (.v 4) i_shut_below_0 c_shut_below_0 x_shut_below_0
abbrev b_shut_below : Ss := .cons (.ite (.cmp .eq (.idx (.var 0) (.con (.int 0))) (.con (.str "free"))) (.cons (.ret (.ite (.cmp .inn (.idx (.var 0) (.con (.int 1))) (.var 2)) (.tup (.cons (.con (.str "var")) (.cons (.bin .add (.var 1) (.mth .index (.var 2) (.cons (.idx (.var 0) (.con (.int 1))) .nil))) .nil))) (.var 0))) .nil) (.nil)) (.cons (.ite (.cmp .eq (.idx (.var 0) (.con (.int 0))) (.con (.str "var"))) (.cons (.ret (.ite (.cmp .lt (.idx (.var 0) (.con (.int 1))) (.var 1)) (.var 0) (.tup (.cons (.con (.str "var")) (.cons (.bin .add (.idx (.var 0) (.con (.int 1))) (.bf .len (.cons (.var 2) .nil))) .nil))))) .nil) (.nil)) (.cons (.asg 3 (.bin .add (.var 1) (.call 7 (.cons (.var 0) .nil)))) (.cons (.ret (.call 8 (.cons (.var 0) (.cons (.bf .tuple (.cons (e_shut_below_0) .nil)) .nil)))) .nil)))
abbrev f_shut_below : Fn := { name := "shut_below", N := ["kind", "under", "order", "more", "k"], P := ["kind", "under", "order"], frz := false, body := b_shut_below }
abbrev b_shut : Ss := .cons (.ret (.call 14 (.cons (.var 0) (.cons (.con (.int 0)) (.cons (.var 1) .nil))))) .nil
abbrev f_shut : Fn := { name := "shut", N := ["kind", "order"], P := ["kind", "order"], frz := false, body := b_shut, kw := [(0, ["order", "kind"], [1, 0])] }
abbrev i_filled_0 : I := .ev (.call 6 (.cons (.var 0) .nil))
abbrev x_filled_0 : E := .call 16 (.cons (.var 2) (.cons (.var 1) .nil))
abbrev c_filled_0 : E := .miss
abbrev e_filled_0 : E := .lc (.v 2) i_filled_0 c_filled_0 x_filled_0
abbrev b_filled : Ss := .cons (.ite (.cmp .eq (.idx (.var 0) (.con (.int 0))) (.con (.str "free"))) (.cons (.ret (.idx (.var 1) (.idx (.var 0) (.con (.int 1))))) .nil) (.nil)) (.cons (.ret (.call 8 (.cons (.var 0) (.cons (.bf .tuple (.cons (e_filled_0) .nil)) .nil)))) .nil)
abbrev f_filled : Fn := { name := "filled", N := ["kind", "kinds", "k"], P := ["kind", "kinds"], frz := false, body := b_filled, kw := [(0, ["kinds", "kind"], [1, 0])] }
abbrev b_unfolded : Ss := .cons (.ret (.call 12 (.cons (.var 0) (.cons (.tup (.cons (.var 0) .nil)) .nil)))) .nil
abbrev f_unfolded : Fn := { name := "unfolded", N := ["kind"], P := ["kind"], frz := false, body := b_unfolded, kw := [(0, ["kind"], [0])] }
abbrev b__law_cup : Ss := .cons (.ret (.new (.lst (.cons (.ite (.cmp .ge (.var 0) (.bin .pow (.con (.int 10)) (.con (.int 18)))) (.bin .sub (.bf .int (.cons (.var 0) .nil)) (.bin .pow (.con (.int 10)) (.con (.int 18)))) (.con (.int 0))) (.cons (.bin .add (.bin .mod (.bf .int (.cons (.var 0) .nil)) (.con (.int 2147483629))) (.con (.int 3))) .nil))))) .nil
abbrev f__law_cup : Fn := { name := "_law_cup", N := ["cell"], P := ["cell"], frz := false, body := b__law_cup }
abbrev b__law_sip : Ss := .cons (.ite (.cmp .gt (.idx (.var 0) (.con (.int 0))) (.con (.int 0))) (.cons (.asg 2 (.bin .mod (.bf .int (.cons (.idx (.var 0) (.con (.int 0))) .nil)) (.var 1))) (.cons (.sto (.var 0) (.con (.int 0)) (.bin .fdiv (.idx (.var 0) (.con (.int 0))) (.var 1))) (.cons (.ret (.var 2)) .nil))) (.nil)) (.cons (.sto (.var 0) (.con (.int 1)) (.bin .mod (.bf .int (.cons (.bin .mul (.idx (.var 0) (.con (.int 1))) (.con (.int 69621))) .nil)) (.con (.int 2147483647)))) (.cons (.ret (.bin .mod (.bin .fdiv (.bin .mod (.bf .int (.cons (.bin .mul (.idx (.var 0) (.con (.int 1))) (.idx (.var 0) (.con (.int 1)))) .nil)) (.con (.int 2147483629))) (.con (.int 32))) (.var 1))) .nil))
abbrev f__law_sip : Fn := { name := "_law_sip", N := ["cup", "many", "drop"], P := ["cup", "many"], frz := false, body := b__law_sip }
abbrev i__law_same_0 : I := .rng (.bf .len (.cons (.var 1) .nil))
abbrev x__law_same_0 : E := .call 20 (.cons (.idx (.var 0) (.var 2)) (.cons (.idx (.var 1) (.var 2)) .nil))
abbrev c__law_same_0 : E := .miss
abbrev e__law_same_0 : E := .lc (.v 2) i__law_same_0 c__law_same_0 x__law_same_0
abbrev b__law_same : Ss := .cons (.ite (.cmp .is (.var 1) (.con (.non))) (.cons (.ret (.cmp .is (.var 0) (.con (.non)))) .nil) (.nil)) (.cons (.ite (.cmp .is (.var 1) (.con (.bl true))) (.cons (.ret (.cmp .is (.var 0) (.con (.bl true)))) .nil) (.nil)) (.cons (.ite (.cmp .is (.var 1) (.con (.bl false))) (.cons (.ret (.cmp .is (.var 0) (.con (.bl false)))) .nil) (.nil)) (.cons (.ite (.isi (.var 1) .int) (.cons (.ret (.and (.isi (.var 0) .int) (.cons (.not (.isi (.var 0) .bl)) (.cons (.cmp .eq (.var 0) (.var 1)) .nil)))) .nil) (.nil)) (.cons (.ite (.isi (.var 1) .str) (.cons (.ret (.and (.isi (.var 0) .str) (.cons (.cmp .eq (.var 0) (.var 1)) .nil))) .nil) (.nil)) (.cons (.ite (.or (.cmp .ne (.isi (.var 1) .tup) (.isi (.var 0) .tup)) (.cons (.cmp .ne (.isi (.var 1) .lst) (.isi (.var 0) .lst)) .nil)) (.cons (.ret (.con (.bl false))) .nil) (.nil)) (.cons (.ite (.cmp .ne (.bf .len (.cons (.var 0) .nil)) (.bf .len (.cons (.var 1) .nil))) (.cons (.ret (.con (.bl false))) .nil) (.nil)) (.cons (.ret (.bf .all (.cons (e__law_same_0) .nil))) .nil)))))))
abbrev f__law_same : Fn := { name := "_law_same", N := ["found", "due", "k"], P := ["found", "due"], frz := false, body := b__law_same }
abbrev i__law_kind_0 : I := .ev (.lst (.cons (.con (.str "int")) (.cons (.con (.str "free")) (.cons (.con (.str "var")) (.cons (.con (.str "row")) (.cons (.con (.str "one")) (.cons (.con (.str "cell")) (.cons (.con (.str "some")) (.cons (.con (.str "rec")) (.cons (.con (.str "not")) (.cons (.con (.str "to")) (.cons (.con (.str "room")) (.cons (.con (.str "code")) .nil)))))))))))))
abbrev x__law_kind_0 : E := .var 6
abbrev c__law_kind_0 : E := .cmp .inn (.var 6) (.var 4)
abbrev e__law_kind_0 : E := .lc (.v 6) i__law_kind_0 c__law_kind_0 x__law_kind_0
abbrev i__law_kind_1 : I := .rng (.bin .add (.call 19 (.cons (.var 0) (.cons (.con (.int 3)) .nil))) (.bf .int (.cons (.cmp .eq (.var 6) (.con (.str "one"))) .nil)))
abbrev x__law_kind_1 : E := .call 21 (.cons (.var 0) (.cons (.bin .sub (.var 1) (.con (.int 1))) (.cons (.var 2) (.cons (.var 3) (.cons (.var 4) .nil)))))
abbrev c__law_kind_1 : E := .miss
abbrev e__law_kind_1 : E := .lc (.v 7) i__law_kind_1 c__law_kind_1 x__law_kind_1
abbrev i__law_kind_2 : I := .rng (.call 19 (.cons (.var 0) (.cons (.con (.int 3)) .nil)))
abbrev x__law_kind_2 : E := .tup (.cons (.call 21 (.cons (.var 0) (.cons (.bin .sub (.var 1) (.con (.int 1))) (.cons (.var 2) (.cons (.var 3) (.cons (.var 4) .nil)))))) (.cons (.cmp .eq (.call 19 (.cons (.var 0) (.cons (.con (.int 2)) .nil))) (.con (.int 0))) .nil))
abbrev c__law_kind_2 : E := .miss
abbrev e__law_kind_2 : E := .lc (.v 7) i__law_kind_2 c__law_kind_2 x__law_kind_2
abbrev i__law_kind_3 : I := .rng (.call 19 (.cons (.var 0) (.cons (.con (.int 3)) .nil)))
abbrev x__law_kind_3 : E := .call 21 (.cons (.var 0) (.cons (.bin .sub (.var 1) (.con (.int 1))) (.cons (.var 2) (.cons (.bin .add (.var 3) (.var 9)) (.cons (.var 4) .nil)))))
abbrev c__law_kind_3 : E := .miss
abbrev e__law_kind_3 : E := .lc (.v 7) i__law_kind_3 c__law_kind_3 x__law_kind_3
abbrev i__law_kind_4 : I := .rng (.bf .len (.cons (.var 10) .nil))
abbrev x__law_kind_4 : E := .tup (.cons (.bin .add (.bin .mul (.con (.int 2)) (.var 7)) (.var 9)) (.cons (.idx (.var 10) (.var 7)) .nil))
abbrev c__law_kind_4 : E := .miss
abbrev e__law_kind_4 : E := .lc (.v 7) i__law_kind_4 c__law_kind_4 x__law_kind_4
abbrev b__law_kind : Ss := .cons (.asgLc 5 (e__law_kind_0)) (.cons (.asg 6 (.ite (.cmp .gt (.var 1) (.con (.int 0))) (.idx (.var 5) (.call 19 (.cons (.var 0) (.cons (.bf .len (.cons (.var 5) .nil)) .nil)))) (.idx (.lst (.cons (.con (.str "int")) (.cons (.con (.str "free")) (.cons (.con (.str "var")) .nil)))) (.call 19 (.cons (.var 0) (.cons (.con (.int 3)) .nil)))))) (.cons (.ite (.and (.cmp .eq (.var 6) (.con (.str "free"))) (.cons (.cmp .gt (.var 2) (.con (.int 0))) .nil)) (.cons (.ret (.tup (.cons (.con (.str "free")) (.cons (.call 19 (.cons (.var 0) (.cons (.var 2) .nil))) .nil)))) .nil) (.nil)) (.cons (.ite (.and (.cmp .eq (.var 6) (.con (.str "var"))) (.cons (.cmp .gt (.var 3) (.con (.int 0))) .nil)) (.cons (.ret (.tup (.cons (.con (.str "var")) (.cons (.call 19 (.cons (.var 0) (.cons (.var 3) .nil))) .nil)))) .nil) (.nil)) (.cons (.ite (.cmp .inn (.var 6) (.tup (.cons (.con (.str "int")) (.cons (.con (.str "free")) (.cons (.con (.str "var")) .nil))))) (.cons (.ret (.tup (.cons (.con (.str "int")) .nil))) .nil) (.nil)) (.cons (.ite (.cmp .inn (.var 6) (.tup (.cons (.con (.str "row")) (.cons (.con (.str "one")) .nil)))) (.cons (.ret (.tup (.cons (.var 6) (.cons (.bf .tuple (.cons (e__law_kind_1) .nil)) .nil)))) .nil) (.nil)) (.cons (.ite (.cmp .eq (.var 6) (.con (.str "cell"))) (.cons (.ret (.tup (.cons (.con (.str "cell")) (.cons (.call 21 (.cons (.var 0) (.cons (.bin .sub (.var 1) (.con (.int 1))) (.cons (.var 2) (.cons (.var 3) (.cons (.var 4) .nil)))))) .nil)))) .nil) (.nil)) (.cons (.ite (.cmp .inn (.var 6) (.tup (.cons (.con (.str "some")) (.cons (.con (.str "rec")) .nil)))) (.cons (.asg 8 (.call 21 (.cons (.var 0) (.cons (.bin .sub (.var 1) (.con (.int 1))) (.cons (.var 2) (.cons (.bin .add (.var 3) (.con (.int 1))) (.cons (.var 4) .nil))))))) (.cons (.ret (.tup (.cons (.var 6) (.cons (.ite (.and (.cmp .eq (.var 6) (.con (.str "rec"))) (.cons (.cmp .inn (.idx (.var 8) (.con (.int 0))) (.tup (.cons (.con (.str "free")) (.cons (.con (.str "var")) .nil)))) .nil)) (.tup (.cons (.con (.str "cell")) (.cons (.var 8) .nil))) (.var 8)) .nil)))) .nil)) (.nil)) (.cons (.ite (.cmp .eq (.var 6) (.con (.str "room"))) (.cons (.ret (.tup (.cons (.con (.str "room")) (.cons (.bf .tuple (.cons (e__law_kind_2) .nil)) .nil)))) .nil) (.nil)) (.cons (.asg 9 (.idx (.lst (.cons (.con (.int 0)) (.cons (.con (.int 1)) (.cons (.con (.int 1)) (.cons (.con (.int 2)) (.cons (.con (.int 2)) (.cons (.con (.int 5)) .nil))))))) (.call 19 (.cons (.var 0) (.cons (.con (.int 6)) .nil))))) (.cons (.asg 10 (e__law_kind_3)) (.cons (.ite (.cmp .eq (.var 6) (.con (.str "code"))) (.cons (.ret (.tup (.cons (.con (.str "code")) (.cons (.var 9) (.cons (.bf .tuple (.cons (e__law_kind_4) .nil)) .nil))))) .nil) (.nil)) (.cons (.ite (.cmp .eq (.var 6) (.con (.str "to"))) (.cons (.ret (.tup (.cons (.con (.str "to")) (.cons (.var 9) (.cons (.bf .tuple (.cons (.var 10) .nil)) (.cons (.call 21 (.cons (.var 0) (.cons (.bin .sub (.var 1) (.con (.int 1))) (.cons (.var 2) (.cons (.bin .add (.var 3) (.var 9)) (.cons (.var 4) .nil)))))) .nil)))))) .nil) (.nil)) (.cons (.ret (.tup (.cons (.con (.str "not")) (.cons (.var 9) (.cons (.bf .tuple (.cons (.var 10) .nil)) .nil))))) .nil)))))))))))))
abbrev f__law_kind : Fn := { name := "_law_kind", N := ["cup", "deep", "free", "under", "words", "some", "word", "k", "inside", "many", "ks"], P := ["cup", "deep", "free", "under", "words"], frz := false, body := b__law_kind }
abbrev b__law_variable : Ss := .cons (.ite (.cmp .eq (.idx (.var 3) (.con (.int 0))) (.con (.str "put"))) (.cons (.ite (.or (.cmp .eq (.var 0) (.con (.str "free"))) (.cons (.cmp .lt (.var 1) (.var 2)) .nil)) (.cons (.ret (.tup (.cons (.var 0) (.cons (.var 1) .nil)))) .nil) (.nil)) (.cons (.ret (.ite (.cmp .lt (.bin .sub (.var 1) (.var 2)) (.bf .len (.cons (.idx (.var 3) (.con (.int 1))) .nil))) (.idx (.idx (.var 3) (.con (.int 1))) (.bin .sub (.var 1) (.var 2))) (.tup (.cons (.con (.str "var")) (.cons (.bin .sub (.var 1) (.bf .len (.cons (.idx (.var 3) (.con (.int 1))) .nil))) .nil))))) .nil)) (.nil)) (.cons (.ite (.cmp .eq (.idx (.var 3) (.con (.int 0))) (.con (.str "fill"))) (.cons (.ret (.ite (.cmp .eq (.var 0) (.con (.str "free"))) (.idx (.idx (.var 3) (.con (.int 1))) (.var 1)) (.tup (.cons (.var 0) (.cons (.var 1) .nil))))) .nil) (.nil)) (.cons (.ite (.and (.cmp .eq (.var 0) (.con (.str "free"))) (.cons (.cmp .inn (.var 1) (.idx (.var 3) (.con (.int 1)))) .nil)) (.cons (.ret (.tup (.cons (.con (.str "var")) (.cons (.bin .add (.var 2) (.mth .index (.bf .list (.cons (.idx (.var 3) (.con (.int 1))) .nil)) (.cons (.var 1) .nil))) .nil)))) .nil) (.nil)) (.cons (.ret (.ite (.and (.cmp .eq (.var 0) (.con (.str "var"))) (.cons (.cmp .ge (.var 1) (.var 2)) .nil)) (.tup (.cons (.con (.str "var")) (.cons (.bin .add (.var 1) (.bf .len (.cons (.idx (.var 3) (.con (.int 1))) .nil))) .nil))) (.tup (.cons (.var 0) (.cons (.var 1) .nil))))) .nil)))
abbrev f__law_variable : Fn := { name := "_law_variable", N := ["word", "number", "under", "told"], P := ["word", "number", "under", "told"], frz := false, body := b__law_variable }
abbrev i__law_turned_0 : I := .ev (.idx (.var 0) (.con (.int 1)))
abbrev x__law_turned_0 : E := .call 23 (.cons (.var 4) (.cons (.var 1) (.cons (.var 2) .nil)))
abbrev c__law_turned_0 : E := .miss
abbrev e__law_turned_0 : E := .lc (.v 4) i__law_turned_0 c__law_turned_0 x__law_turned_0
abbrev i__law_turned_1 : I := .ev (.idx (.var 0) (.con (.int 1)))
abbrev x__law_turned_1 : E := .tup (.cons (.call 23 (.cons (.var 4) (.cons (.var 1) (.cons (.var 2) .nil)))) (.cons (.var 5) .nil))
abbrev c__law_turned_1 : E := .miss
abbrev e__law_turned_1 : E := .lc (.tu [4, 5]) i__law_turned_1 c__law_turned_1 x__law_turned_1
abbrev i__law_turned_2 : I := .ev (.idx (.var 0) (.con (.int 2)))
abbrev x__law_turned_2 : E := .tup (.cons (.var 7) (.cons (.call 23 (.cons (.var 4) (.cons (.var 6) (.cons (.var 2) .nil)))) .nil))
abbrev c__law_turned_2 : E := .miss
abbrev e__law_turned_2 : E := .lc (.tu [7, 4]) i__law_turned_2 c__law_turned_2 x__law_turned_2
abbrev i__law_turned_3 : I := .ev (.idx (.var 0) (.con (.int 2)))
abbrev x__law_turned_3 : E := .call 23 (.cons (.var 4) (.cons (.var 6) (.cons (.var 2) .nil)))
abbrev c__law_turned_3 : E := .miss
abbrev e__law_turned_3 : E := .lc (.v 4) i__law_turned_3 c__law_turned_3 x__law_turned_3
abbrev i__law_turned_4 : I := .ev (.slc (.var 0) (.con (.int 3)) (.miss))
abbrev x__law_turned_4 : E := .call 23 (.cons (.var 4) (.cons (.var 6) (.cons (.var 2) .nil)))
abbrev c__law_turned_4 : E := .miss
abbrev e__law_turned_4 : E := .lc (.v 4) i__law_turned_4 c__law_turned_4 x__law_turned_4
abbrev b__law_turned : Ss := .cons (.asg 3 (.idx (.var 0) (.con (.int 0)))) (.cons (.ite (.cmp .inn (.var 3) (.tup (.cons (.con (.str "free")) (.cons (.con (.str "var")) .nil)))) (.cons (.ret (.call 22 (.cons (.var 3) (.cons (.idx (.var 0) (.con (.int 1))) (.cons (.var 1) (.cons (.var 2) .nil)))))) .nil) (.nil)) (.cons (.ite (.cmp .eq (.var 3) (.con (.str "int"))) (.cons (.ret (.var 0)) .nil) (.nil)) (.cons (.ite (.cmp .inn (.var 3) (.tup (.cons (.con (.str "row")) (.cons (.con (.str "one")) .nil)))) (.cons (.ret (.tup (.cons (.var 3) (.cons (.bf .tuple (.cons (e__law_turned_0) .nil)) .nil)))) .nil) (.nil)) (.cons (.ite (.cmp .eq (.var 3) (.con (.str "cell"))) (.cons (.ret (.tup (.cons (.var 3) (.cons (.call 23 (.cons (.idx (.var 0) (.con (.int 1))) (.cons (.var 1) (.cons (.var 2) .nil)))) .nil)))) .nil) (.nil)) (.cons (.ite (.cmp .inn (.var 3) (.tup (.cons (.con (.str "some")) (.cons (.con (.str "rec")) .nil)))) (.cons (.ret (.tup (.cons (.var 3) (.cons (.call 23 (.cons (.idx (.var 0) (.con (.int 1))) (.cons (.bin .add (.var 1) (.con (.int 1))) (.cons (.var 2) .nil)))) .nil)))) .nil) (.nil)) (.cons (.ite (.cmp .eq (.var 3) (.con (.str "room"))) (.cons (.ret (.tup (.cons (.var 3) (.cons (.bf .tuple (.cons (e__law_turned_1) .nil)) .nil)))) .nil) (.nil)) (.cons (.asg 6 (.bin .add (.var 1) (.idx (.var 0) (.con (.int 1))))) (.cons (.ite (.cmp .eq (.var 3) (.con (.str "code"))) (.cons (.ret (.tup (.cons (.var 3) (.cons (.idx (.var 0) (.con (.int 1))) (.cons (.bf .tuple (.cons (e__law_turned_2) .nil)) .nil))))) .nil) (.nil)) (.cons (.ret (.bin .add (.tup (.cons (.var 3) (.cons (.idx (.var 0) (.con (.int 1))) (.cons (.bf .tuple (.cons (e__law_turned_3) .nil)) .nil)))) (.bf .tuple (.cons (e__law_turned_4) .nil)))) .nil)))))))))
abbrev f__law_turned : Fn := { name := "_law_turned", N := ["kind", "under", "told", "word", "k", "is_set", "more", "r"], P := ["kind", "under", "told"], frz := false, body := b__law_turned }
abbrev i__law_inside_0 : I := .ev (.idx (.var 0) (.con (.int 2)))
abbrev x__law_inside_0 : E := .tup (.cons (.var 3) (.cons (.call 23 (.cons (.var 4) (.cons (.con (.int 0)) (.cons (.var 2) .nil)))) .nil))
abbrev c__law_inside_0 : E := .miss
abbrev e__law_inside_0 : E := .lc (.tu [3, 4]) i__law_inside_0 c__law_inside_0 x__law_inside_0
abbrev i__law_inside_1 : I := .ev (.idx (.var 0) (.con (.int 2)))
abbrev x__law_inside_1 : E := .call 23 (.cons (.var 4) (.cons (.con (.int 0)) (.cons (.var 2) .nil)))
abbrev c__law_inside_1 : E := .miss
abbrev e__law_inside_1 : E := .lc (.v 4) i__law_inside_1 c__law_inside_1 x__law_inside_1
abbrev b__law_inside : Ss := .cons (.asg 2 (.lst (.cons (.con (.str "put")) (.cons (.var 1) .nil)))) (.cons (.ite (.cmp .inn (.idx (.var 0) (.con (.int 0))) (.tup (.cons (.con (.str "some")) (.cons (.con (.str "rec")) .nil)))) (.cons (.ret (.call 23 (.cons (.idx (.var 0) (.con (.int 1))) (.cons (.con (.int 0)) (.cons (.var 2) .nil))))) .nil) (.nil)) (.cons (.ite (.cmp .eq (.idx (.var 0) (.con (.int 0))) (.con (.str "code"))) (.cons (.ret (.bf .tuple (.cons (e__law_inside_0) .nil))) .nil) (.nil)) (.cons (.asg 5 (.bf .tuple (.cons (e__law_inside_1) .nil))) (.cons (.ret (.ite (.cmp .eq (.idx (.var 0) (.con (.int 0))) (.con (.str "not"))) (.var 5) (.tup (.cons (.var 5) (.cons (.call 23 (.cons (.idx (.var 0) (.con (.int 3))) (.cons (.con (.int 0)) (.cons (.var 2) .nil)))) .nil))))) .nil))))
abbrev f__law_inside : Fn := { name := "_law_inside", N := ["kind", "kinds", "told", "r", "k", "ks"], P := ["kind", "kinds"], frz := false, body := b__law_inside }
abbrev i__law_binder_right_0 : I := .rng (.var 2)
abbrev x__law_binder_right_0 : E := .call 21 (.cons (.var 0) (.cons (.con (.int 3)) (.cons (.con (.int 4)) (.cons (.con (.int 0)) (.cons (.var 3) .nil)))))
abbrev c__law_binder_right_0 : E := .miss
abbrev e__law_binder_right_0 : E := .lc (.v 5) i__law_binder_right_0 c__law_binder_right_0 x__law_binder_right_0
abbrev b__law_binder_right : Ss := .cons (.asg 4 (.bf .tuple (.cons (e__law_binder_right_0) .nil))) (.cons (.asg 6 (.call 24 (.cons (.var 1) (.cons (.var 4) .nil)))) (.cons (.ite (.not (.call 20 (.cons (.lst (.cons (.call 12 (.cons (.var 1) (.cons (.var 4) .nil))) (.cons (.callK 12 (.nil) (.cons (.var 1) (.cons (.var 4) .nil)) [0, 1]) .nil))) (.cons (.lst (.cons (.var 6) (.cons (.var 6) .nil))) .nil)))) (.cons (.ret (.con (.bl false))) .nil) (.nil)) (.cons (.ite (.and (.cmp .eq (.idx (.var 1) (.con (.int 0))) (.con (.str "rec"))) (.cons (.not (.call 20 (.cons (.lst (.cons (.call 17 (.cons (.var 1) .nil)) (.cons (.callK 17 (.nil) (.cons (.var 1) .nil) [0]) .nil))) (.cons (.bin .mul (.lst (.cons (.call 24 (.cons (.var 1) (.cons (.tup (.cons (.var 1) .nil)) .nil))) .nil)) (.con (.int 2))) .nil)))) .nil)) (.cons (.ret (.con (.bl false))) .nil) (.nil)) (.cons (.ite (.cmp .nin (.idx (.var 1) (.con (.int 0))) (.tup (.cons (.con (.str "not")) (.cons (.con (.str "code")) .nil)))) (.cons (.ret (.con (.bl true))) .nil) (.nil)) (.cons (.for_ (.v 7) (.rng (.bin .add (.var 2) (.con (.int 1)))) (.cons (.asg 8 (.call 13 (.cons (.var 1) (.cons (.slc (.var 4) (.miss) (.var 7)) .nil)))) (.cons (.ite (.or (.cmp .ne (.slc (.var 8) (.miss) (.con (.int 2))) (.tup (.cons (.idx (.var 1) (.con (.int 0))) (.cons (.bin .sub (.var 2) (.var 7)) .nil)))) (.cons (.not (.call 10 (.cons (.con (.int 4)) (.cons (.var 8) (.cons (.var 3) .nil))))) (.cons (.cmp .ne (.callK 13 (.nil) (.cons (.slc (.var 4) (.miss) (.var 7)) (.cons (.var 1) .nil)) [1, 0]) (.var 8)) .nil))) (.cons (.ret (.con (.bl false))) .nil) (.nil)) (.cons (.ite (.not (.call 20 (.cons (.call 24 (.cons (.var 8) (.cons (.slc (.var 4) (.var 7) (.miss)) .nil))) (.cons (.var 6) .nil)))) (.cons (.ret (.con (.bl false))) .nil) (.nil)) .nil)))) (.cons (.ret (.con (.bl true))) .nil))))))
abbrev f__law_binder_right : Fn := { name := "_law_binder_right", N := ["cup", "binder", "many", "words", "kinds", "k", "due", "first", "some"], P := ["cup", "binder", "many", "words"], frz := false, body := b__law_binder_right }
abbrev i_law_0 : I := .rng (.con (.int 4))
abbrev x_law_0 : E := .call 21 (.cons (.var 3) (.cons (.con (.int 2)) (.cons (.con (.int 4)) (.cons (.con (.int 0)) (.cons (.bin .add (.var 4) (.tup (.cons (.con (.str "free")) (.cons (.con (.str "var")) .nil)))) .nil)))))
abbrev c_law_0 : E := .miss
abbrev e_law_0 : E := .lc (.v 10) i_law_0 c_law_0 x_law_0
abbrev b_law : Ss := .cons (.asg 1 (.lst (.cons (.tup (.cons (.con (.str "cell")) (.cons (.con (.str "int")) (.cons (.con (.str "not")) (.cons (.con (.str "one")) (.cons (.con (.str "rec")) (.cons (.con (.str "room")) (.cons (.con (.str "row")) (.cons (.con (.str "some")) (.cons (.con (.str "to")) (.cons (.con (.str "code")) .nil))))))))))) (.cons (.tup (.cons (.con (.str "cell")) (.cons (.con (.str "code")) (.cons (.con (.str "int")) (.cons (.con (.str "one")) (.cons (.con (.str "rec")) (.cons (.con (.str "room")) (.cons (.con (.str "some")) .nil)))))))) .nil)))) (.cons (.asg 1 (.bin .add (.var 1) (.lst (.cons (.tup (.cons (.con (.str "cell")) (.cons (.con (.str "int")) (.cons (.con (.str "one")) (.cons (.con (.str "rec")) (.cons (.con (.str "row")) (.cons (.con (.str "some")) (.cons (.con (.str "to")) .nil)))))))) .nil)))) (.cons (.for_ (.v 2) (.ev (.bin .add (.lst (.cons (.con (.int 61990795559528099920000000000000000000000692345679713345679021)) .nil)) (.slc (.var 0) (.miss) (.con (.int 5))))) (.cons (.asg 3 (.call 18 (.cons (.var 2) .nil))) (.cons (.asg 4 (.idx (.var 1) (.call 19 (.cons (.var 3) (.cons (.con (.int 3)) .nil))))) (.cons (.for_ (.v 5) (.rng (.con (.int 8))) (.cons (.asg 6 (.call 19 (.cons (.var 3) (.cons (.con (.int 3)) .nil)))) (.cons (.asg 7 (.call 21 (.cons (.var 3) (.cons (.con (.int 4)) (.cons (.con (.int 4)) (.cons (.con (.int 0)) (.cons (.bin .add (.var 4) (.tup (.cons (.con (.str "free")) (.cons (.con (.str "var")) .nil)))) .nil))))))) (.cons (.asg 8 (.idx (.lst (.cons (.ftup (.nil)) (.cons (.ftup (.cons (.con (.int 2)) .nil)) (.cons (.ftup (.cons (.con (.int 3)) (.cons (.con (.int 0)) .nil))) (.cons (.ftup (.cons (.con (.int 0)) (.cons (.con (.int 1)) (.cons (.con (.int 2)) (.cons (.con (.int 3)) .nil))))) .nil))))) (.call 19 (.cons (.var 3) (.cons (.con (.int 4)) .nil))))) (.cons (.asg 9 (.bf .tuple (.cons (e_law_0) .nil))) (.cons (.ite (.or (.not (.call 10 (.cons (.con (.int 4)) (.cons (.var 7) (.cons (.var 4) .nil))))) (.cons (.not (.call 20 (.cons (.lst (.cons (.call 15 (.cons (.var 7) (.cons (.var 8) .nil))) (.cons (.callK 15 (.nil) (.cons (.var 8) (.cons (.var 7) .nil)) [1, 0]) .nil))) (.cons (.bin .mul (.lst (.cons (.call 23 (.cons (.var 7) (.cons (.con (.int 0)) (.cons (.lst (.cons (.con (.str "shut")) (.cons (.var 8) .nil))) .nil)))) .nil)) (.con (.int 2))) .nil)))) .nil)) (.cons (.ret (.con (.bl false))) .nil) (.nil)) (.cons (.ite (.not (.call 20 (.cons (.lst (.cons (.call 16 (.cons (.var 7) (.cons (.var 9) .nil))) (.cons (.callK 16 (.nil) (.cons (.var 9) (.cons (.var 7) .nil)) [1, 0]) .nil))) (.cons (.bin .mul (.lst (.cons (.call 23 (.cons (.var 7) (.cons (.con (.int 0)) (.cons (.lst (.cons (.con (.str "fill")) (.cons (.var 9) .nil))) .nil)))) .nil)) (.con (.int 2))) .nil)))) (.cons (.ret (.con (.bl false))) .nil) (.nil)) (.cons (.asg 11 (.call 21 (.cons (.var 3) (.cons (.con (.int 4)) (.cons (.con (.int 4)) (.cons (.con (.int 0)) (.cons (.bin .add (.var 4) (.tup (.cons (.con (.str "free")) (.cons (.con (.str "var")) .nil)))) .nil))))))) (.cons (.ite (.cmp .inn (.idx (.var 11) (.con (.int 0))) (.tup (.cons (.con (.str "some")) (.cons (.con (.str "rec")) (.cons (.con (.str "not")) (.cons (.con (.str "to")) (.cons (.con (.str "code")) .nil))))))) (.cons (.asg 6 (.ite (.cmp .inn (.idx (.var 11) (.con (.int 0))) (.tup (.cons (.con (.str "not")) (.cons (.con (.str "to")) (.cons (.con (.str "code")) .nil))))) (.idx (.var 11) (.con (.int 1))) (.con (.int 1)))) (.cons (.ite (.not (.call 25 (.cons (.var 3) (.cons (.var 11) (.cons (.var 6) (.cons (.bin .add (.var 4) (.tup (.cons (.con (.str "free")) (.cons (.con (.str "var")) .nil)))) .nil)))))) (.cons (.ret (.con (.bl false))) .nil) (.nil)) .nil)) (.nil)) (.cons (.asg 12 (.call 23 (.cons (.var 7) (.cons (.con (.int 0)) (.cons (.lst (.cons (.con (.str "fill")) (.cons (.tup (.cons (.tup (.cons (.con (.str "free")) (.cons (.con (.int 0)) .nil))) (.cons (.tup (.cons (.con (.str "free")) (.cons (.con (.int 1)) .nil))) (.cons (.idx (.var 9) (.con (.int 0))) (.cons (.tup (.cons (.con (.str "free")) (.cons (.con (.int 3)) .nil))) .nil))))) .nil))) .nil))))) (.cons (.ite (.not (.call 20 (.cons (.call 12 (.cons (.tup (.cons (.con (.str "some")) (.cons (.call 15 (.cons (.var 7) (.cons (.ftup (.cons (.con (.int 2)) .nil)) .nil))) .nil))) (.cons (.tup (.cons (.idx (.var 9) (.con (.int 0))) .nil)) .nil))) (.cons (.var 12) .nil)))) (.cons (.ret (.con (.bl false))) .nil) (.nil)) .nil))))))))))) .nil)))) (.cons (.ret (.con (.bl true))) .nil)))
abbrev f_law : Fn := { name := "law", N := ["script", "words", "cell", "cup", "some", "turn", "many", "kind", "order", "kinds", "k", "binder", "due"], P := ["script"], frz := false, body := b_law }
def T : List Fn := [f_is_integer, f_is_tuple_of, f_is_kinds, f_is_pairs, f_has_form, f_is_rising, f_insides, f_binds, f_with_insides, f_is_kind_below, f_is_kind, f_put_below, f_opened, f_opened_first, f_shut_below, f_shut, f_filled, f_unfolded, f__law_cup, f__law_sip, f__law_same, f__law_kind, f__law_variable, f__law_turned, f__law_inside, f__law_binder_right, f_law]
def bs : List Str := ["all", "bool", "int", "isinstance", "len", "list", "range", "str", "tuple", "zip"]
def gn : List Str := ["MOST_BOUND"]
-- at: [1, 2, 5, 6, 7, 8, 9, 10, 11, 12, 13, 14, 15, 16, 17, 18, 19, 20, 22, 23, 24, 25, 26, 27, 28, 29, 30]

def top (i : Nat) : Stmt := PySem.Challenge.pw_kindscarried_k70_kinds_opened_shut_fille.main.body.getD i (.Pass ⟨0, 0, 0, 0⟩)
def chk (f : Fn) (i : Nat) : Bool := mSs ⟨f.N, defScope (top i), fun _ => true, bs, T, gn⟩ f.body (defBody (top i))
theorem ok_is_integer : chk f_is_integer 1 = true := by decide +kernel
theorem sc_is_integer : FnScope f_is_integer.N f_is_integer.P (defScope (top 1)) := ⟨rfl, rfl, rfl, by decide +kernel, rfl, by decide +kernel, by decide +kernel⟩
theorem ok_is_tuple_of : chk f_is_tuple_of 2 = true := by decide +kernel
theorem sc_is_tuple_of : FnScope f_is_tuple_of.N f_is_tuple_of.P (defScope (top 2)) := ⟨rfl, rfl, rfl, by decide +kernel, rfl, by decide +kernel, by decide +kernel⟩
theorem ok_is_kinds : chk f_is_kinds 5 = true := by decide +kernel
theorem sc_is_kinds : FnScope f_is_kinds.N f_is_kinds.P (defScope (top 5)) := ⟨rfl, rfl, rfl, by decide +kernel, rfl, by decide +kernel, by decide +kernel⟩
theorem ok_is_pairs : chk f_is_pairs 6 = true := by decide +kernel
theorem sc_is_pairs : FnScope f_is_pairs.N f_is_pairs.P (defScope (top 6)) := ⟨rfl, rfl, rfl, by decide +kernel, rfl, by decide +kernel, by decide +kernel⟩
theorem ok_has_form : chk f_has_form 7 = true := by decide +kernel
theorem sc_has_form : FnScope f_has_form.N f_has_form.P (defScope (top 7)) := ⟨rfl, rfl, rfl, by decide +kernel, rfl, by decide +kernel, by decide +kernel⟩
theorem ok_is_rising : chk f_is_rising 8 = true := by decide +kernel
theorem sc_is_rising : FnScope f_is_rising.N f_is_rising.P (defScope (top 8)) := ⟨rfl, rfl, rfl, by decide +kernel, rfl, by decide +kernel, by decide +kernel⟩
theorem ok_insides : chk f_insides 9 = true := by decide +kernel
theorem sc_insides : FnScope f_insides.N f_insides.P (defScope (top 9)) := ⟨rfl, rfl, rfl, by decide +kernel, rfl, by decide +kernel, by decide +kernel⟩
theorem ok_binds : chk f_binds 10 = true := by decide +kernel
theorem sc_binds : FnScope f_binds.N f_binds.P (defScope (top 10)) := ⟨rfl, rfl, rfl, by decide +kernel, rfl, by decide +kernel, by decide +kernel⟩
theorem ok_with_insides : chk f_with_insides 11 = true := by decide +kernel
theorem sc_with_insides : FnScope f_with_insides.N f_with_insides.P (defScope (top 11)) := ⟨rfl, rfl, rfl, by decide +kernel, rfl, by decide +kernel, by decide +kernel⟩
theorem ok_is_kind_below : chk f_is_kind_below 12 = true := by decide +kernel
theorem sc_is_kind_below : FnScope f_is_kind_below.N f_is_kind_below.P (defScope (top 12)) := ⟨rfl, rfl, rfl, by decide +kernel, rfl, by decide +kernel, by decide +kernel⟩
theorem ok_is_kind : chk f_is_kind 13 = true := by decide +kernel
theorem sc_is_kind : FnScope f_is_kind.N f_is_kind.P (defScope (top 13)) := ⟨rfl, rfl, rfl, by decide +kernel, rfl, by decide +kernel, by decide +kernel⟩
theorem ok_put_below : chk f_put_below 14 = true := by decide +kernel
theorem sc_put_below : FnScope f_put_below.N f_put_below.P (defScope (top 14)) := ⟨rfl, rfl, rfl, by decide +kernel, rfl, by decide +kernel, by decide +kernel⟩
theorem ok_opened : chk f_opened 15 = true := by decide +kernel
theorem sc_opened : FnScope f_opened.N f_opened.P (defScope (top 15)) := ⟨rfl, rfl, rfl, by decide +kernel, rfl, by decide +kernel, by decide +kernel⟩
theorem ok_opened_first : chk f_opened_first 16 = true := by decide +kernel
theorem sc_opened_first : FnScope f_opened_first.N f_opened_first.P (defScope (top 16)) := ⟨rfl, rfl, rfl, by decide +kernel, rfl, by decide +kernel, by decide +kernel⟩
theorem ok_shut_below : chk f_shut_below 17 = true := by decide +kernel
theorem sc_shut_below : FnScope f_shut_below.N f_shut_below.P (defScope (top 17)) := ⟨rfl, rfl, rfl, by decide +kernel, rfl, by decide +kernel, by decide +kernel⟩
theorem ok_shut : chk f_shut 18 = true := by decide +kernel
theorem sc_shut : FnScope f_shut.N f_shut.P (defScope (top 18)) := ⟨rfl, rfl, rfl, by decide +kernel, rfl, by decide +kernel, by decide +kernel⟩
theorem ok_filled : chk f_filled 19 = true := by decide +kernel
theorem sc_filled : FnScope f_filled.N f_filled.P (defScope (top 19)) := ⟨rfl, rfl, rfl, by decide +kernel, rfl, by decide +kernel, by decide +kernel⟩
theorem ok_unfolded : chk f_unfolded 20 = true := by decide +kernel
theorem sc_unfolded : FnScope f_unfolded.N f_unfolded.P (defScope (top 20)) := ⟨rfl, rfl, rfl, by decide +kernel, rfl, by decide +kernel, by decide +kernel⟩
theorem ok__law_cup : chk f__law_cup 22 = true := by decide +kernel
theorem sc__law_cup : FnScope f__law_cup.N f__law_cup.P (defScope (top 22)) := ⟨rfl, rfl, rfl, by decide +kernel, rfl, by decide +kernel, by decide +kernel⟩
theorem ok__law_sip : chk f__law_sip 23 = true := by decide +kernel
theorem sc__law_sip : FnScope f__law_sip.N f__law_sip.P (defScope (top 23)) := ⟨rfl, rfl, rfl, by decide +kernel, rfl, by decide +kernel, by decide +kernel⟩
theorem ok__law_same : chk f__law_same 24 = true := by decide +kernel
theorem sc__law_same : FnScope f__law_same.N f__law_same.P (defScope (top 24)) := ⟨rfl, rfl, rfl, by decide +kernel, rfl, by decide +kernel, by decide +kernel⟩
theorem ok__law_kind : chk f__law_kind 25 = true := by decide +kernel
theorem sc__law_kind : FnScope f__law_kind.N f__law_kind.P (defScope (top 25)) := ⟨rfl, rfl, rfl, by decide +kernel, rfl, by decide +kernel, by decide +kernel⟩
theorem ok__law_variable : chk f__law_variable 26 = true := by decide +kernel
theorem sc__law_variable : FnScope f__law_variable.N f__law_variable.P (defScope (top 26)) := ⟨rfl, rfl, rfl, by decide +kernel, rfl, by decide +kernel, by decide +kernel⟩
theorem ok__law_turned : chk f__law_turned 27 = true := by decide +kernel
theorem sc__law_turned : FnScope f__law_turned.N f__law_turned.P (defScope (top 27)) := ⟨rfl, rfl, rfl, by decide +kernel, rfl, by decide +kernel, by decide +kernel⟩
theorem ok__law_inside : chk f__law_inside 28 = true := by decide +kernel
theorem sc__law_inside : FnScope f__law_inside.N f__law_inside.P (defScope (top 28)) := ⟨rfl, rfl, rfl, by decide +kernel, rfl, by decide +kernel, by decide +kernel⟩
theorem ok__law_binder_right : chk f__law_binder_right 29 = true := by decide +kernel
theorem sc__law_binder_right : FnScope f__law_binder_right.N f__law_binder_right.P (defScope (top 29)) := ⟨rfl, rfl, rfl, by decide +kernel, rfl, by decide +kernel, by decide +kernel⟩
theorem ok_law : chk f_law 30 = true := by decide +kernel
theorem sc_law : FnScope f_law.N f_law.P (defScope (top 30)) := ⟨rfl, rfl, rfl, by decide +kernel, rfl, by decide +kernel, by decide +kernel⟩
abbrev G : List D := [.int 10000]
abbrev C (k f : Nat) (xs : List D) (h : Hh) : R D := callN T G k f xs h
abbrev F (k : Nat) : Fns := callN T G k
abbrev n_is_integer : Nat := 0
theorem C_is_integer (k : Nat) (x0 : D) (h : Hh) : C (k + 1) n_is_integer [x0] h = finR false h.length (evSs (F k) G b_is_integer [some x0] h) := id rfl
abbrev n_is_tuple_of : Nat := 1
theorem C_is_tuple_of (k : Nat) (x0 x1 : D) (h : Hh) : C (k + 1) n_is_tuple_of [x0, x1] h = finR false h.length (evSs (F k) G b_is_tuple_of [some x0, some x1] h) := id rfl
abbrev n_is_kinds : Nat := 2
theorem C_is_kinds (k : Nat) (x0 : D) (h : Hh) : C (k + 1) n_is_kinds [x0] h = finR false h.length (evSs (F k) G b_is_kinds [some x0, none] h) := id rfl
abbrev n_is_pairs : Nat := 3
theorem C_is_pairs (k : Nat) (x0 : D) (h : Hh) : C (k + 1) n_is_pairs [x0] h = finR false h.length (evSs (F k) G b_is_pairs [some x0, none] h) := id rfl
abbrev n_has_form : Nat := 4
theorem C_has_form (k : Nat) (x0 : D) (h : Hh) : C (k + 1) n_has_form [x0] h = finR false h.length (evSs (F k) G b_has_form [some x0, none, none, none] h) := id rfl
abbrev n_is_rising : Nat := 5
theorem C_is_rising (k : Nat) (x0 : D) (h : Hh) : C (k + 1) n_is_rising [x0] h = finR false h.length (evSs (F k) G b_is_rising [some x0, none, none] h) := id rfl
abbrev n_insides : Nat := 6
theorem C_insides (k : Nat) (x0 : D) (h : Hh) : C (k + 1) n_insides [x0] h = finR false h.length (evSs (F k) G b_insides [some x0, none, none, none, none] h) := id rfl
abbrev n_binds : Nat := 7
theorem C_binds (k : Nat) (x0 : D) (h : Hh) : C (k + 1) n_binds [x0] h = finR false h.length (evSs (F k) G b_binds [some x0] h) := id rfl
abbrev n_with_insides : Nat := 8
theorem C_with_insides (k : Nat) (x0 x1 : D) (h : Hh) : C (k + 1) n_with_insides [x0, x1] h = finR false h.length (evSs (F k) G b_with_insides [some x0, some x1, none, none, none] h) := id rfl
abbrev n_is_kind_below : Nat := 9
theorem C_is_kind_below (k : Nat) (x0 x1 x2 x3 : D) (h : Hh) : C (k + 1) n_is_kind_below [x0, x1, x2, x3] h = finR false h.length (evSs (F k) G b_is_kind_below [some x0, some x1, some x2, some x3, none] h) := id rfl
abbrev n_is_kind : Nat := 10
theorem C_is_kind (k : Nat) (x0 x1 x2 : D) (h : Hh) : C (k + 1) n_is_kind [x0, x1, x2] h = finR false h.length (evSs (F k) G b_is_kind [some x0, some x1, some x2] h) := id rfl
abbrev n_put_below : Nat := 11
theorem C_put_below (k : Nat) (x0 x1 x2 : D) (h : Hh) : C (k + 1) n_put_below [x0, x1, x2] h = finR false h.length (evSs (F k) G b_put_below [some x0, some x1, some x2, none, none, none] h) := id rfl
abbrev n_opened : Nat := 12
theorem C_opened (k : Nat) (x0 x1 : D) (h : Hh) : C (k + 1) n_opened [x0, x1] h = finR false h.length (evSs (F k) G b_opened [some x0, some x1, none, none] h) := id rfl
abbrev n_opened_first : Nat := 13
theorem C_opened_first (k : Nat) (x0 x1 : D) (h : Hh) : C (k + 1) n_opened_first [x0, x1] h = finR false h.length (evSs (F k) G b_opened_first [some x0, some x1, none, none, none] h) := id rfl
abbrev n_shut_below : Nat := 14
theorem C_shut_below (k : Nat) (x0 x1 x2 : D) (h : Hh) : C (k + 1) n_shut_below [x0, x1, x2] h = finR false h.length (evSs (F k) G b_shut_below [some x0, some x1, some x2, none, none] h) := id rfl
abbrev n_shut : Nat := 15
theorem C_shut (k : Nat) (x0 x1 : D) (h : Hh) : C (k + 1) n_shut [x0, x1] h = finR false h.length (evSs (F k) G b_shut [some x0, some x1] h) := id rfl
abbrev n_filled : Nat := 16
theorem C_filled (k : Nat) (x0 x1 : D) (h : Hh) : C (k + 1) n_filled [x0, x1] h = finR false h.length (evSs (F k) G b_filled [some x0, some x1, none] h) := id rfl
abbrev n_unfolded : Nat := 17
theorem C_unfolded (k : Nat) (x0 : D) (h : Hh) : C (k + 1) n_unfolded [x0] h = finR false h.length (evSs (F k) G b_unfolded [some x0] h) := id rfl
abbrev n__law_cup : Nat := 18
theorem C__law_cup (k : Nat) (x0 : D) (h : Hh) : C (k + 1) n__law_cup [x0] h = finR false h.length (evSs (F k) G b__law_cup [some x0] h) := id rfl
abbrev n__law_sip : Nat := 19
theorem C__law_sip (k : Nat) (x0 x1 : D) (h : Hh) : C (k + 1) n__law_sip [x0, x1] h = finR false h.length (evSs (F k) G b__law_sip [some x0, some x1, none] h) := id rfl
abbrev n__law_same : Nat := 20
theorem C__law_same (k : Nat) (x0 x1 : D) (h : Hh) : C (k + 1) n__law_same [x0, x1] h = finR false h.length (evSs (F k) G b__law_same [some x0, some x1, none] h) := id rfl
abbrev n__law_kind : Nat := 21
theorem C__law_kind (k : Nat) (x0 x1 x2 x3 x4 : D) (h : Hh) : C (k + 1) n__law_kind [x0, x1, x2, x3, x4] h = finR false h.length (evSs (F k) G b__law_kind [some x0, some x1, some x2, some x3, some x4, none, none, none, none, none, none] h) := id rfl
abbrev n__law_variable : Nat := 22
theorem C__law_variable (k : Nat) (x0 x1 x2 x3 : D) (h : Hh) : C (k + 1) n__law_variable [x0, x1, x2, x3] h = finR false h.length (evSs (F k) G b__law_variable [some x0, some x1, some x2, some x3] h) := id rfl
abbrev n__law_turned : Nat := 23
theorem C__law_turned (k : Nat) (x0 x1 x2 : D) (h : Hh) : C (k + 1) n__law_turned [x0, x1, x2] h = finR false h.length (evSs (F k) G b__law_turned [some x0, some x1, some x2, none, none, none, none, none] h) := id rfl
abbrev n__law_inside : Nat := 24
theorem C__law_inside (k : Nat) (x0 x1 : D) (h : Hh) : C (k + 1) n__law_inside [x0, x1] h = finR false h.length (evSs (F k) G b__law_inside [some x0, some x1, none, none, none, none] h) := id rfl
abbrev n__law_binder_right : Nat := 25
theorem C__law_binder_right (k : Nat) (x0 x1 x2 x3 : D) (h : Hh) : C (k + 1) n__law_binder_right [x0, x1, x2, x3] h = finR false h.length (evSs (F k) G b__law_binder_right [some x0, some x1, some x2, some x3, none, none, none, none, none] h) := id rfl
abbrev n_law : Nat := 26
theorem C_law (k : Nat) (x0 : D) (h : Hh) : C (k + 1) n_law [x0] h = finR false h.length (evSs (F k) G b_law [some x0, none, none, none, none, none, none, none, none, none, none, none, none] h) := id rfl
end K70
end

section
/-! KdA: kinds as a type of their own; what is replaced at their variables. No program in sight. -/
set_option maxRecDepth 100000
namespace Kn
open PySem PV
inductive A2 {α β : Type} (P : α → β → Prop) : List α → List β → Prop
  | nil : A2 P [] []
  | cons {a b as bs} : P a b → A2 P as bs → A2 P (a :: as) (b :: bs)
theorem A2.len {α β : Type} {P : α → β → Prop} {xs : List α} {ys : List β} (h : A2 P xs ys) : xs.length = ys.length := by
  induction h with
  | nil => rfl
  | cons _ _ ih => simp [ih]
theorem A2.app {α β : Type} {P : α → β → Prop} {xs xs' : List α} {ys ys' : List β} (h : A2 P xs ys) (h' : A2 P xs' ys') : A2 P (xs ++ xs') (ys ++ ys') := by
  induction h with
  | nil => exact h'
  | cons p _ ih => exact .cons p ih
theorem A2.imp {α β : Type} {P Q : α → β → Prop} {xs : List α} {ys : List β} (h : A2 P xs ys) (f : ∀ a b, P a b → Q a b) : A2 Q xs ys := by
  induction h with
  | nil => exact .nil
  | cons p _ ih => exact .cons (f _ _ p) ih
theorem A2.get {α β : Type} {P : α → β → Prop} : ∀ {xs : List α} {ys : List β} {k : Nat} {x : α}, A2 P xs ys → xs[k]? = some x → ∃ y, ys[k]? = some y ∧ P x y
  | _, _, _, _, .nil, e => (by simp at e)
  | _, _, 0, _, .cons p _, e => by simp at e; subst e; exact ⟨_, rfl, p⟩
  | _, _, k + 1, _, .cons _ t, e => by
    obtain ⟨y, h1, h2⟩ := A2.get (k := k) t (by simpa using e)
    exact ⟨y, by simpa using h1, h2⟩
theorem A2.of_get {α β : Type} {P : α → β → Prop} : ∀ {xs : List α} {ys : List β}, xs.length = ys.length → (∀ (k : Nat) (x : α) (y : β), xs[k]? = some x → ys[k]? = some y → P x y) → A2 P xs ys
  | [], [], _, _ => .nil
  | [], _ :: _, hl, _ => by cases hl
  | _ :: _, [], hl, _ => by cases hl
  | x :: xs, y :: ys, hl, h => .cons (h 0 x y rfl rfl) (A2.of_get (Nat.succ.inj hl) fun k a b ha hb => h (k + 1) a b (by simpa using ha) (by simpa using hb))
theorem lcA {turn : D → Hh → R (Option D)} {h : Hh} : ∀ {xs ys : List D} {acc : List D}, A2 (fun x y => turn x h = .ok (some y) h) xs ys → lcLoop (fun _ => true) turn xs acc h = .ok (.lst (acc ++ ys)) h
  | [], _, acc, .nil => by unfold lcLoop; simp
  | x :: xs, _, acc, .cons (b := y) p t => by
    unfold lcLoop
    rw [if_pos rfl, p]
    dsimp only
    rw [lcA t]
    simp
/-- with a filter -/
theorem lcF {turn : D → Hh → R (Option D)} {h : Hh} (g : D → Option D) : ∀ {xs : List D} {acc : List D}, (∀ x ∈ xs, turn x h = .ok (g x) h) → lcLoop (fun _ => true) turn xs acc h = .ok (.lst (acc ++ xs.filterMap g)) h
  | [], acc, _ => by unfold lcLoop; simp
  | x :: xs, acc, p => by
    unfold lcLoop
    rw [if_pos rfl, p x List.mem_cons_self]
    have ih := fun acc => lcF g (xs := xs) (acc := acc) fun y hy => p y (List.mem_cons_of_mem _ hy)
    cases e : g x with
    | none => dsimp only; rw [ih, List.filterMap_cons_none e]
    | some y => dsimp only; rw [ih, List.filterMap_cons_some e]; simp

/-! ### kinds -/
inductive Un where | cel | som | re
inductive Mn where | row | one | room | not (n : Nat) | code (n : Nat)
mutual
inductive Kd where
  | int | free (n : Nat) | var (n : Nat) | un (w : Un) (k : Kd) | mn (m : Mn) (ks : Ks) | to (n : Nat) (ks : Ks) (l : Kd)
inductive Ks where
  | nil | cons (b : D) (k : Kd) (r : Ks)
end
@[simp] def Un.nm : Un → Str
  | .cel => "cell" | .som => "some" | .re => "rec"
@[simp] def Un.bn : Un → Nat
  | .cel => 0 | .som => 1 | .re => 1
@[simp] def Mn.nm : Mn → Str
  | .row => "row" | .one => "one" | .room => "room" | .not _ => "not" | .code _ => "code"
@[simp] def Mn.bn : Mn → Nat
  | .not n => n | .code n => n | _ => 0
mutual
/-- a kind as data -/
def Kd.d : Kd → D
  | .int => .tup [.str "int"]
  | .free n => .tup [.str "free", .int n]
  | .var n => .tup [.str "var", .int n]
  | .un w k => .tup [.str w.nm, k.d]
  | .mn .row ks => .tup [.str "row", .tup ks.ds]
  | .mn .one ks => .tup [.str "one", .tup ks.ds]
  | .mn .room ks => .tup [.str "room", .tup ks.fs]
  | .mn (.not n) ks => .tup [.str "not", .int n, .tup ks.ds]
  | .mn (.code n) ks => .tup [.str "code", .int n, .tup ks.gs]
  | .to n ks l => .tup [.str "to", .int n, .tup ks.ds, l.d]
def Ks.ds : Ks → List D
  | .nil => []
  | .cons _ k r => k.d :: r.ds
def Ks.fs : Ks → List D
  | .nil => []
  | .cons b k r => .tup [k.d, b] :: r.fs
def Ks.gs : Ks → List D
  | .nil => []
  | .cons b k r => .tup [b, k.d] :: r.gs
end
def Ks.len : Ks → Nat
  | .nil => 0
  | .cons _ _ r => r.len + 1
@[simp] theorem ds_len : ∀ ks : Ks, ks.ds.length = ks.len
  | .nil => rfl
  | .cons _ _ r => by show r.ds.length + 1 = r.len + 1; rw [ds_len r]
@[simp] theorem fs_len : ∀ ks : Ks, ks.fs.length = ks.len
  | .nil => rfl
  | .cons _ _ r => by show r.fs.length + 1 = r.len + 1; rw [fs_len r]
@[simp] theorem gs_len : ∀ ks : Ks, ks.gs.length = ks.len
  | .nil => rfl
  | .cons _ _ r => by show r.gs.length + 1 = r.len + 1; rw [gs_len r]
mutual
def Kd.dep : Kd → Nat
  | .un _ k => k.dep + 1
  | .mn _ ks => ks.dep + 1
  | .to _ ks l => max ks.dep l.dep + 1
  | _ => 0
def Ks.dep : Ks → Nat
  | .nil => 0
  | .cons _ k r => max k.dep r.dep
end
mutual
/-- rows are short -/
def Kd.sm : Kd → Prop
  | .un _ k => k.sm
  | .mn _ ks => ks.len ≤ 1000 ∧ ks.sm
  | .to _ ks l => ks.len ≤ 1000 ∧ ks.sm ∧ l.sm
  | _ => True
def Ks.sm : Ks → Prop
  | .nil => True
  | .cons _ k r => k.sm ∧ r.sm
end
/-- the kinds within -/
def Kd.ins : Kd → List D
  | .un _ k => [k.d]
  | .mn _ ks => ks.ds
  | .to _ ks l => ks.ds ++ [l.d]
  | _ => []
def Kd.bn : Kd → Nat
  | .un w _ => w.bn
  | .mn m _ => m.bn
  | .to n _ _ => n
  | _ => 0
/-- other kinds at the variables: g under how many, free, the number -/
abbrev Leaf := Nat → Bool → Nat → Kd
mutual
def Kd.tr (g : Leaf) (u : Nat) : Kd → Kd
  | .int => .int
  | .free n => g u true n
  | .var n => g u false n
  | .un w k => .un w (k.tr g (u + w.bn))
  | .mn m ks => .mn m (ks.tr g (u + m.bn))
  | .to n ks l => .to n (ks.tr g (u + n)) (l.tr g (u + n))
def Ks.tr (g : Leaf) (u : Nat) : Ks → Ks
  | .nil => .nil
  | .cons b k r => .cons b (k.tr g u) (r.tr g u)
end
@[simp] theorem tr_len (g : Leaf) (u : Nat) : ∀ ks : Ks, (ks.tr g u).len = ks.len
  | .nil => rfl
  | .cons _ _ r => by show (r.tr g u).len + 1 = r.len + 1; rw [tr_len g u r]
/-- the kinds within, turned -/
def Kd.tri (g : Leaf) (u : Nat) : Kd → List D
  | .un w k => [(k.tr g (u + w.bn)).d]
  | .mn m ks => (ks.tr g (u + m.bn)).ds
  | .to n ks l => (ks.tr g (u + n)).ds ++ [(l.tr g (u + n)).d]
  | _ => []
/-- the kinds within turned, at a level of their own -/
def Kd.inn (g : Leaf) (v : Nat) : Kd → Kd
  | .un w k => .un w (k.tr g v)
  | .mn m ks => .mn m (ks.tr g v)
  | .to n ks l => .to n (ks.tr g v) (l.tr g v)
  | k => k
def Kd.ini (g : Leaf) (v : Nat) : Kd → List D
  | .un w k => [(k.tr g v).d]
  | .mn m ks => (ks.tr g v).ds
  | .to n ks l => (ks.tr g v).ds ++ [(l.tr g v).d]
  | _ => []
theorem tri_ini (g : Leaf) (u : Nat) (d : Kd) : d.tri g u = d.ini g (u + d.bn) := by cases d <;> rfl
def Kd.leaf : Kd → Bool
  | .int => true | .free _ => true | .var _ => true
  | _ => false
theorem tr_inn (g : Leaf) (u : Nat) {d : Kd} (h : d.leaf = false) : d.tr g u = d.inn g (u + d.bn) := by cases d <;> first | rfl | cases h
mutual
/-- variables in scope -/
def Kd.wk (f u : Nat) : Kd → Prop
  | .int => True
  | .free n => n < f
  | .var n => n < u
  | .un w k => k.wk f (u + w.bn)
  | .mn m ks => ks.wk f (u + m.bn)
  | .to n ks l => ks.wk f (u + n) ∧ l.wk f (u + n)
def Ks.wk (f u : Nat) : Ks → Prop
  | .nil => True
  | .cons _ k r => k.wk f u ∧ r.wk f u
end
mutual
theorem tr_tr (g g' : Leaf) : ∀ (k : Kd) (u : Nat), (k.tr g u).tr g' u = k.tr (fun u f n => (g u f n).tr g' u) u
  | .int, u => rfl
  | .free n, u => rfl
  | .var n, u => rfl
  | .un w k, u => by simp only [Kd.tr, tr_tr g g' k]
  | .mn m ks, u => by simp only [Kd.tr, trs_trs g g' ks]
  | .to n ks l, u => by simp only [Kd.tr, trs_trs g g' ks, tr_tr g g' l]
theorem trs_trs (g g' : Leaf) : ∀ (ks : Ks) (u : Nat), (ks.tr g u).tr g' u = ks.tr (fun u f n => (g u f n).tr g' u) u
  | .nil, u => rfl
  | .cons b k r, u => by simp only [Ks.tr, tr_tr g g' k, trs_trs g g' r]
end
mutual
/-- the same, where they are the same at the variables in scope -/
theorem tr_eq {g g' : Leaf} {F : Nat} : ∀ (k : Kd) (u : Nat), k.wk F u → (∀ v, u ≤ v → (∀ n, n < F → g v true n = g' v true n) ∧ ∀ n, n < v → g v false n = g' v false n) → k.tr g u = k.tr g' u
  | .int, u, _, _ => rfl
  | .free n, u, hw, h => (h u (Nat.le_refl _)).1 n hw
  | .var n, u, hw, h => (h u (Nat.le_refl _)).2 n hw
  | .un w k, u, hw, h => by simp only [Kd.tr]; rw [tr_eq k (u + w.bn) hw fun v hv => h v (by omega)]
  | .mn m ks, u, hw, h => by simp only [Kd.tr]; rw [trs_eq ks (u + m.bn) hw fun v hv => h v (by omega)]
  | .to n ks l, u, hw, h => by simp only [Kd.tr]; rw [trs_eq ks (u + n) hw.1 fun v hv => h v (by omega), tr_eq l (u + n) hw.2 fun v hv => h v (by omega)]
theorem trs_eq {g g' : Leaf} {F : Nat} : ∀ (ks : Ks) (u : Nat), ks.wk F u → (∀ v, u ≤ v → (∀ n, n < F → g v true n = g' v true n) ∧ ∀ n, n < v → g v false n = g' v false n) → ks.tr g u = ks.tr g' u
  | .nil, u, _, _ => rfl
  | .cons b k r, u, hw, h => by simp only [Ks.tr]; rw [tr_eq k u hw.1 h, trs_eq r u hw.2 h]
end
mutual
theorem tr_id : ∀ (k : Kd) (u : Nat), k.tr (fun _ f n => if f then .free n else .var n) u = k
  | .int, u => rfl
  | .free n, u => rfl
  | .var n, u => rfl
  | .un w k, u => by simp only [Kd.tr, tr_id k]
  | .mn m ks, u => by simp only [Kd.tr, trs_id ks]
  | .to n ks l, u => by simp only [Kd.tr, trs_id ks, tr_id l]
theorem trs_id : ∀ (ks : Ks) (u : Nat), ks.tr (fun _ f n => if f then .free n else .var n) u = ks
  | .nil, u => rfl
  | .cons b k r, u => by simp only [Ks.tr, tr_id k, trs_id r]
end
/-- stays as it is -/
theorem tr_stay {g : Leaf} {F : Nat} (k : Kd) (u : Nat) (hw : k.wk F u) (h : ∀ v, u ≤ v → (∀ n, n < F → g v true n = .free n) ∧ ∀ n, n < v → g v false n = .var n) : k.tr g u = k :=
  (tr_eq (g' := fun _ f n => if f then .free n else .var n) k u hw fun v hv => ⟨fun n hn => (h v hv).1 n hn, fun n hn => (h v hv).2 n hn⟩).trans (tr_id k u)
mutual
theorem wk_le {F F' : Nat} : ∀ (k : Kd) {u u' : Nat}, k.wk F u → F ≤ F' → u ≤ u' → k.wk F' u'
  | .int, u, u', _, _, _ => trivial
  | .free n, u, u', hw, hf, hu => Nat.lt_of_lt_of_le hw hf
  | .var n, u, u', hw, hf, hu => Nat.lt_of_lt_of_le hw hu
  | .un w k, u, u', hw, hf, hu => wk_le k (u := u + w.bn) (u' := u' + w.bn) hw hf (by omega)
  | .mn m ks, u, u', hw, hf, hu => wks_le ks (u := u + m.bn) (u' := u' + m.bn) hw hf (by omega)
  | .to n ks l, u, u', hw, hf, hu => ⟨wks_le ks (u := u + n) (u' := u' + n) hw.1 hf (by omega), wk_le l (u := u + n) (u' := u' + n) hw.2 hf (by omega)⟩
theorem wks_le {F F' : Nat} : ∀ (ks : Ks) {u u' : Nat}, ks.wk F u → F ≤ F' → u ≤ u' → ks.wk F' u'
  | .nil, u, u', _, _, _ => trivial
  | .cons b k r, u, u', hw, hf, hu => ⟨wk_le k hw.1 hf hu, wks_le r hw.2 hf hu⟩
end
mutual
/-- scope behind a replacing -/
theorem tr_wk {g : Leaf} {F F' : Nat} {m : Nat → Nat} : ∀ (k : Kd) (u : Nat), k.wk F u → (∀ v, u ≤ v → (∀ n, n < F → (g v true n).wk F' (m v)) ∧ ∀ n, n < v → (g v false n).wk F' (m v)) → (∀ v w, u ≤ v → m (v + w) = m v + w) → (k.tr g u).wk F' (m u)
  | .int, u, _, _, _ => trivial
  | .free n, u, hw, h, _ => (h u (Nat.le_refl _)).1 n hw
  | .var n, u, hw, h, _ => (h u (Nat.le_refl _)).2 n hw
  | .un w k, u, hw, h, hm => by
    have := tr_wk k (u + w.bn) hw (fun v hv => h v (by omega)) fun v x hv => hm v x (by omega)
    rw [hm u w.bn (Nat.le_refl _)] at this; exact this
  | .mn m' ks, u, hw, h, hm => by
    have := trs_wk ks (u + m'.bn) hw (fun v hv => h v (by omega)) fun v x hv => hm v x (by omega)
    rw [hm u m'.bn (Nat.le_refl _)] at this; exact this
  | .to n ks l, u, hw, h, hm => by
    have h1 := trs_wk ks (u + n) hw.1 (fun v hv => h v (by omega)) fun v x hv => hm v x (by omega)
    have h2 := tr_wk l (u + n) hw.2 (fun v hv => h v (by omega)) fun v x hv => hm v x (by omega)
    rw [hm u n (Nat.le_refl _)] at h1 h2
    exact ⟨h1, h2⟩
theorem trs_wk {g : Leaf} {F F' : Nat} {m : Nat → Nat} : ∀ (ks : Ks) (u : Nat), ks.wk F u → (∀ v, u ≤ v → (∀ n, n < F → (g v true n).wk F' (m v)) ∧ ∀ n, n < v → (g v false n).wk F' (m v)) → (∀ v w, u ≤ v → m (v + w) = m v + w) → (ks.tr g u).wk F' (m u)
  | .nil, u, _, _, _ => trivial
  | .cons b k r, u, hw, h, hm => ⟨tr_wk k u hw.1 h hm, trs_wk r u hw.2 h hm⟩
end
mutual
theorem tr_sm {g : Leaf} (h : ∀ v f n, (g v f n).sm) : ∀ (k : Kd) (u : Nat), k.sm → (k.tr g u).sm
  | .int, u, _ => trivial
  | .free n, u, _ => h u true n
  | .var n, u, _ => h u false n
  | .un w k, u, hs => tr_sm h k (u + w.bn) hs
  | .mn m ks, u, hs => ⟨by rw [tr_len]; exact hs.1, trs_sm h ks (u + m.bn) hs.2⟩
  | .to n ks l, u, hs => ⟨by rw [tr_len]; exact hs.1, trs_sm h ks (u + n) hs.2.1, tr_sm h l (u + n) hs.2.2⟩
theorem trs_sm {g : Leaf} (h : ∀ v f n, (g v f n).sm) : ∀ (ks : Ks) (u : Nat), ks.sm → (ks.tr g u).sm
  | .nil, u, _ => trivial
  | .cons b k r, u, hs => ⟨tr_sm h k u hs.1, trs_sm h r u hs.2⟩
end
mutual
theorem tr_dep {g : Leaf} {N : Nat} (h : ∀ v f n, (g v f n).dep ≤ N) : ∀ (k : Kd) (u : Nat), (k.tr g u).dep ≤ k.dep + N
  | .int, u => Nat.zero_le _
  | .free n, u => Nat.le_trans (h u true n) (Nat.le_add_left _ _)
  | .var n, u => Nat.le_trans (h u false n) (Nat.le_add_left _ _)
  | .un w k, u => by have := tr_dep h k (u + w.bn); simp only [Kd.tr, Kd.dep]; omega
  | .mn m ks, u => by have := trs_dep h ks (u + m.bn); simp only [Kd.tr, Kd.dep]; omega
  | .to n ks l, u => by have := trs_dep h ks (u + n); have := tr_dep h l (u + n); simp only [Kd.tr, Kd.dep]; omega
theorem trs_dep {g : Leaf} {N : Nat} (h : ∀ v f n, (g v f n).dep ≤ N) : ∀ (ks : Ks) (u : Nat), (ks.tr g u).dep ≤ ks.dep + N
  | .nil, u => Nat.zero_le _
  | .cons b k r, u => by have := tr_dep h k u; have := trs_dep h r u; simp only [Ks.tr, Ks.dep]; omega
end
/-! ### the replacings of the program -/
/-- an opened binder's -/
def putG (ss : List Kd) : Leaf := fun u f n => if f then .free n else if n < u then .var n else match ss[n - u]? with
  | some k => k
  | none => .var (n - ss.length)
/-- a shut binder's: where an order has a number -/
def shutG (o : List Nat) : Leaf := fun u f n => if f then (if n ∈ o then .var (u + o.idxOf n) else .free n) else if n < u then .var n else .var (n + o.length)
def fillG (ss : List Kd) : Leaf := fun _ f n => if f then ss.getD n .int else .var n
end Kn
end

section
/-! KdI: what is a kind, among any data. No program in sight. -/
set_option maxRecDepth 100000
namespace Kn
open PySem PV
mutual
/-- plain data of a size that walks -/
def pl : D → Bool
  | .non => true
  | .bl _ => true
  | .int _ => true
  | .str x => PyData.strOk x
  | .tup xs => decide (xs.length ≤ 1000000) && pls xs
  | .lst xs => decide (xs.length ≤ 1000000) && pls xs
  | .ref _ => false
  | .fz _ => false
  | .ftup _ => false
def pls : List D → Bool
  | [] => true
  | x :: xs => pl x && pls xs
end
theorem pls_iff : ∀ {xs : List D}, pls xs = true ↔ ∀ x ∈ xs, pl x = true
  | [] => by simp [pls]
  | x :: xs => by simp [pls, pls_iff (xs := xs)]
mutual
theorem pl_lay : ∀ d : D, pl d = true → d.lay = true
  | .non, _ => rfl
  | .bl _, _ => rfl
  | .int _, _ => rfl
  | .str _, h => h
  | .tup xs, h => by simp only [pl, Bool.and_eq_true] at h; exact pls_lays xs h.2
  | .lst xs, h => by simp only [pl, Bool.and_eq_true] at h; exact pls_lays xs h.2
  | .ref _, h => by cases h
  | .fz _, h => by cases h
  | .ftup _, h => by cases h
theorem pls_lays : ∀ xs : List D, pls xs = true → D.lays xs = true
  | [], _ => rfl
  | x :: xs, h => by
    simp only [pls, Bool.and_eq_true] at h
    show (x.lay && D.lays xs) = true
    rw [pl_lay x h.1, pls_lays xs h.2]; rfl
end
/-- plain, and of a depth that == reads -/
def P64 (d : D) : Prop := pl d = true ∧ d.dep ≤ 64
theorem P64.shp {d : D} (h : P64 d) : d.shp = true := by
  unfold D.shp
  rw [pl_lay d h.1, Bool.true_and]
  exact decide_eq_true h.2
theorem P64.sub {xs : List D} (h : P64 (.tup xs)) {x : D} (hx : x ∈ xs) : P64 x := by
  have h1 := h.1
  have h2 : D.deps xs + 1 ≤ 64 := h.2
  simp only [pl, Bool.and_eq_true] at h1
  have := deps_le.mp (Nat.le_refl (D.deps xs)) x hx
  exact ⟨pls_iff.mp h1.2 x hx, by omega⟩
theorem P64.len {xs : List D} (h : P64 (.tup xs)) : xs.length ≤ 1000000 := by
  have h1 := h.1
  simp only [pl, Bool.and_eq_true, decide_eq_true_eq] at h1
  exact h1.1
theorem P64.subd {xs : List D} {n : Nat} (h : (D.tup xs).dep ≤ n + 1) {x : D} (hx : x ∈ xs) : x.dep ≤ n := by
  have h2 : D.deps xs + 1 ≤ n + 1 := h
  have := deps_le.mp (Nat.le_refl (D.deps xs)) x hx
  omega
theorem P64.tl {x : D} {xs : List D} (h : P64 (.tup (x :: xs))) : P64 (.tup xs) := by
  have h1 := h.1
  have h2 : D.deps (x :: xs) + 1 ≤ 64 := h.2
  simp only [pl, pls, Bool.and_eq_true, decide_eq_true_eq, List.length_cons] at h1
  simp only [D.deps] at h2
  refine ⟨?_, ?_⟩
  · simp only [pl, Bool.and_eq_true, decide_eq_true_eq]; exact ⟨by omega, h1.2.2⟩
  · show D.deps xs + 1 ≤ 64; omega
theorem P64.nf {x : D} (h : P64 x) : x.isF = false := by cases x <;> first | rfl | cases h.1
def isHd : D → Bool
  | .tup (.str _ :: _) => true
  | _ => false
def isHds : D → Bool
  | .tup xs => xs.all isHd
  | _ => false
def isPr : D → Bool
  | .tup [_, _] => true
  | _ => false
def isPrs : D → Bool
  | .tup xs => xs.all isPr
  | _ => false
def isNt : D → Bool
  | .int i => decide (0 ≤ i)
  | _ => false
def isBl : D → Bool
  | .bl _ => true
  | _ => false
def fst : D → D
  | .tup (x :: _) => x
  | _ => .non
def snd : D → D
  | .tup (_ :: x :: _) => x
  | _ => .non
def items : D → List D
  | .tup xs => xs
  | _ => []
def ltD : D → D → Bool
  | .int i, .int j => decide (i < j)
  | _, _ => false
def rise : List D → Bool
  | x :: y :: r => ltD x y && rise (y :: r)
  | _ => true
def rising (xs : List D) : Bool := xs.all isNt && rise xs
/-- the head is a variable's -/
def hdV : D → Bool
  | .tup (.str w :: _) => decide (w = "free") || decide (w = "var")
  | _ => false
def bnd (i : Int) : Bool := decide (0 ≤ i) && decide (i ≤ 10000)
def one1 (p : D → Bool) : List D → Bool
  | [x] => p x
  | _ => false
def two2 (p : D → D → Bool) : List D → Bool
  | [x, y] => p x y
  | _ => false
def three3 (p : D → D → D → Bool) : List D → Bool
  | [x, y, z] => p x y z
  | _ => false
def inB : D → Bool
  | .int n => bnd n
  | _ => false
def form (w : Str) (rest : List D) : Bool :=
    if w = "int" then rest.isEmpty
    else if w = "free" ∨ w = "var" then one1 isNt rest
    else if w = "cell" ∨ w = "some" ∨ w = "rec" then one1 (fun x => isHd x && (!decide (w = "rec") || !hdV x)) rest
    else if w = "row" ∨ w = "one" then one1 (fun x => isHds x && (decide (w = "row") || !(items x).isEmpty)) rest
    else if w = "room" then one1 (fun x => isPrs x && (items x).all fun p => isBl (snd p)) rest
    else if w = "not" then two2 (fun n x => inB n && isHds x) rest
    else if w = "to" then three3 (fun n x y => inB n && (isHds x && isHd y)) rest
    else if w = "code" then two2 (fun n x => inB n && (isPrs x && rising ((items x).map fst))) rest
    else false
/-- the kinds within, and how many are bound there; of what has the form -/
def inn (w : Str) (rest : List D) : List D :=
    if w = "cell" ∨ w = "some" ∨ w = "rec" then rest
    else if w = "row" ∨ w = "one" then items (rest.getD 0 .non)
    else if w = "room" then (items (rest.getD 0 .non)).map fst
    else if w = "code" then (items (rest.getD 1 .non)).map snd
    else if w = "to" then items (rest.getD 1 .non) ++ [rest.getD 2 .non]
    else if w = "not" then items (rest.getD 1 .non)
    else []
def numD : D → Int
  | .int i => i
  | _ => 0
def bnn (w : Str) (rest : List D) : Int :=
  if w = "some" ∨ w = "rec" then 1 else if w = "not" ∨ w = "to" ∨ w = "code" then numD (rest.getD 0 .non) else 0
def isK (ws : List Str) (f : Int) : Nat → Int → D → Bool
  | 0, _, _ => false
  | n + 1, u, .tup (.str w :: rest) => (decide (w ∈ ws) || decide (w = "free") || decide (w = "var")) && form w rest &&
      (if w = "free" then decide (numD (rest.getD 0 .non) < f) else if w = "var" then decide (numD (rest.getD 0 .non) < u)
       else (inn w rest).all (isK ws f n (u + bnn w rest)))
  | _ + 1, _, _ => false
def PN (n : Nat) (d : D) : Prop := pl d = true ∧ d.dep ≤ n
theorem PN.p64 {n : Nat} {d : D} (h : PN n d) (hn : n ≤ 64) : P64 d := ⟨h.1, Nat.le_trans h.2 hn⟩
theorem PN.sub {n : Nat} {xs : List D} (h : PN (n + 1) (.tup xs)) {x : D} (hx : x ∈ xs) : PN n x := by
  have h1 := h.1
  have h2 : D.deps xs + 1 ≤ n + 1 := h.2
  simp only [pl, Bool.and_eq_true] at h1
  have := deps_le.mp (Nat.le_refl (D.deps xs)) x hx
  exact ⟨pls_iff.mp h1.2 x hx, by omega⟩
theorem PN.mono {n m : Nat} {d : D} (h : PN n d) (hm : n ≤ m) : PN m d := ⟨h.1, Nat.le_trans h.2 hm⟩
/-- one deeper, of any tuple -/
theorem PN.dn {n : Nat} {xs : List D} (h : PN n (.tup xs)) {x : D} (hx : x ∈ xs) : PN n x ∧ PN (n - 1) x := by
  cases n with
  | zero => have := h.2; simp [D.dep] at this
  | succ n => exact ⟨(h.sub hx).mono (Nat.le_succ n), h.sub hx⟩
theorem one1_eq {p : D → Bool} {r : List D} (h : one1 p r = true) : ∃ x, r = [x] ∧ p x = true := by
  unfold one1 at h
  split at h
  · exact ⟨_, rfl, h⟩
  · cases h
theorem two2_eq {p : D → D → Bool} {r : List D} (h : two2 p r = true) : ∃ x y, r = [x, y] ∧ p x y = true := by
  unfold two2 at h
  split at h
  · exact ⟨_, _, rfl, h⟩
  · cases h
theorem three3_eq {p : D → D → D → Bool} {r : List D} (h : three3 p r = true) : ∃ x y z, r = [x, y, z] ∧ p x y z = true := by
  unfold three3 at h
  split at h
  · exact ⟨_, _, _, rfl, h⟩
  · cases h
theorem isHds_eq {x : D} (h : isHds x = true) : ∃ xs, x = .tup xs ∧ xs.all isHd = true := by
  cases x <;> first | exact ⟨_, rfl, h⟩ | cases h
theorem isPrs_eq {x : D} (h : isPrs x = true) : ∃ xs, x = .tup xs ∧ xs.all isPr = true := by
  cases x <;> first | exact ⟨_, rfl, h⟩ | cases h
theorem isPr_eq {x : D} (h : isPr x = true) : ∃ a b, x = .tup [a, b] := by
  unfold isPr at h
  split at h
  · exact ⟨_, _, rfl⟩
  · cases h
theorem inB_eq {x : D} (h : inB x = true) : ∃ n, x = .int n ∧ 0 ≤ n ∧ n ≤ 10000 := by
  cases x <;> first | exact ⟨_, rfl, by simpa [inB, bnd] using h⟩ | cases h
theorem isNt_eq {x : D} (h : isNt x = true) : ∃ n, x = .int n ∧ 0 ≤ n := by
  cases x <;> first | exact ⟨_, rfl, by simpa [isNt] using h⟩ | cases h
/-- what has the form -/
inductive Fm : Str → List D → Prop
  | int : Fm "int" []
  | free (n : Int) : 0 ≤ n → Fm "free" [.int n]
  | var (n : Int) : 0 ≤ n → Fm "var" [.int n]
  | cell (x : D) : isHd x = true → Fm "cell" [x]
  | some (x : D) : isHd x = true → Fm "some" [x]
  | rec_ (x : D) : isHd x = true → hdV x = false → Fm "rec" [x]
  | row (xs : List D) : xs.all isHd = true → Fm "row" [.tup xs]
  | one (xs : List D) : xs.all isHd = true → xs.isEmpty = false → Fm "one" [.tup xs]
  | room (xs : List D) : xs.all isPr = true → (xs.all fun p => isBl (snd p)) = true → Fm "room" [.tup xs]
  | not (n : Int) (xs : List D) : 0 ≤ n → n ≤ 10000 → xs.all isHd = true → Fm "not" [.int n, .tup xs]
  | to (n : Int) (xs : List D) (l : D) : 0 ≤ n → n ≤ 10000 → xs.all isHd = true → isHd l = true → Fm "to" [.int n, .tup xs, l]
  | code (n : Int) (xs : List D) : 0 ≤ n → n ≤ 10000 → xs.all isPr = true → rising (xs.map fst) = true → Fm "code" [.int n, .tup xs]
theorem form_fm {w : Str} {rest : List D} (h : form w rest = true) : Fm w rest := by
  unfold form at h
  split at h
  · rename_i e; subst e
    cases rest with
    | nil => exact .int
    | cons _ _ => cases h
  split at h
  · rename_i e
    obtain ⟨x, rfl, hx⟩ := one1_eq h
    obtain ⟨n, rfl, hn⟩ := isNt_eq hx
    rcases e with rfl | rfl
    · exact .free n hn
    · exact .var n hn
  split at h
  · rename_i e
    obtain ⟨x, rfl, hx⟩ := one1_eq h
    simp only [Bool.and_eq_true, Bool.or_eq_true] at hx
    rcases e with rfl | rfl | rfl
    · exact .cell x hx.1
    · exact .some x hx.1
    · exact .rec_ x hx.1 (by simpa using hx.2)
  split at h
  · rename_i e
    obtain ⟨x, rfl, hx⟩ := one1_eq h
    simp only [Bool.and_eq_true, Bool.or_eq_true] at hx
    obtain ⟨xs, rfl, ha⟩ := isHds_eq hx.1
    rcases e with rfl | rfl
    · exact .row xs ha
    · exact .one xs ha (by simpa [items] using hx.2)
  split at h
  · rename_i e; subst e
    obtain ⟨x, rfl, hx⟩ := one1_eq h
    simp only [Bool.and_eq_true] at hx
    obtain ⟨xs, rfl, ha⟩ := isPrs_eq hx.1
    exact .room xs ha hx.2
  split at h
  · rename_i e; subst e
    obtain ⟨x, y, rfl, hx⟩ := two2_eq h
    simp only [Bool.and_eq_true] at hx
    obtain ⟨n, rfl, h0, h1⟩ := inB_eq hx.1
    obtain ⟨xs, rfl, ha⟩ := isHds_eq hx.2
    exact .not n xs h0 h1 ha
  split at h
  · rename_i e; subst e
    obtain ⟨x, y, z, rfl, hx⟩ := three3_eq h
    simp only [Bool.and_eq_true] at hx
    obtain ⟨n, rfl, h0, h1⟩ := inB_eq hx.1
    obtain ⟨xs, rfl, ha⟩ := isHds_eq hx.2.1
    exact .to n xs z h0 h1 ha hx.2.2
  split at h
  · rename_i e; subst e
    obtain ⟨x, y, rfl, hx⟩ := two2_eq h
    simp only [Bool.and_eq_true] at hx
    obtain ⟨n, rfl, h0, h1⟩ := inB_eq hx.1
    obtain ⟨xs, rfl, ha⟩ := isPrs_eq hx.2.1
    exact .code n xs h0 h1 ha hx.2.2
  · cases h
/-- the kinds within are less deep -/
theorem inn_sub {n : Nat} {w : Str} {rest : List D} (f : Fm w rest) (h : PN (n + 1) (.tup (.str w :: rest))) {x : D} (hx : x ∈ inn w rest) : PN n x := by
  have hr : ∀ y ∈ rest, PN n y := fun y hy => h.sub (List.mem_cons_of_mem _ hy)
  have tp : ∀ {xs : List D}, D.tup xs ∈ rest → ∀ y ∈ xs, PN n y := fun hm y hy => ((hr _ hm).dn hy).1
  have pr : ∀ {xs : List D}, D.tup xs ∈ rest → xs.all isPr = true → ∀ y ∈ xs, PN n (fst y) ∧ PN n (snd y) := fun {xs} hm ha y hy => by
    obtain ⟨a, b, rfl⟩ := isPr_eq (List.all_eq_true.mp ha y hy)
    have q := tp hm _ hy
    exact ⟨(q.dn (x := a) (by simp)).1, (q.dn (x := b) (by simp)).1⟩
  cases f with
  | int => simp [inn] at hx
  | free m _ => simp [inn] at hx
  | var m _ => simp [inn] at hx
  | cell y _ => simp [inn] at hx; subst hx; exact hr _ (by simp)
  | some y _ => simp [inn] at hx; subst hx; exact hr _ (by simp)
  | rec_ y _ _ => simp [inn] at hx; subst hx; exact hr _ (by simp)
  | row xs _ => simp [inn, items] at hx; exact tp (by simp) x hx
  | one xs _ _ => simp [inn, items] at hx; exact tp (by simp) x hx
  | room xs ha _ =>
    simp [inn, items] at hx
    obtain ⟨y, hy, rfl⟩ := hx
    exact (pr (by simp) ha y hy).1
  | not m xs _ _ _ => simp [inn, items] at hx; exact tp (by simp) x hx
  | to m xs l _ _ _ _ =>
    simp [inn, items] at hx
    rcases hx with hx | rfl
    · exact tp (by simp) x hx
    · exact hr _ (by simp)
  | code m xs _ _ ha _ =>
    simp [inn, items] at hx
    obtain ⟨y, hy, rfl⟩ := hx
    exact (pr (by simp) ha y hy).2
end Kn
end

section
/-! KdK: kinds of told words, in scope. No program in sight. -/
set_option maxRecDepth 100000
namespace Kn
open PySem PV
def Ks.tgs : Ks → List D
  | .nil => []
  | .cons b _ r => b :: r.tgs
/-- the tags are of the sort that the word wants -/
def Mn.tagOk : Mn → Ks → Prop
  | .room, ks => ks.tgs.all isBl = true
  | .code _, ks => rising ks.tgs = true
  | .one, ks => 0 < ks.len
  | _, _ => True
mutual
def Kd.ok (ws : List Str) (f u : Nat) : Kd → Prop
  | .int => Str.ofString "int" ∈ ws
  | .free n => n < f
  | .var n => n < u
  | .un w k => w.nm ∈ ws ∧ (w = .re → hdV k.d = false) ∧ k.ok ws f (u + w.bn)
  | .mn m ks => m.nm ∈ ws ∧ m.bn ≤ 10000 ∧ m.tagOk ks ∧ ks.ok ws f (u + m.bn)
  | .to n ks l => Str.ofString "to" ∈ ws ∧ n ≤ 10000 ∧ ks.ok ws f (u + n) ∧ l.ok ws f (u + n)
def Ks.ok (ws : List Str) (f u : Nat) : Ks → Prop
  | .nil => True
  | .cons _ k r => k.ok ws f u ∧ r.ok ws f u
end
mutual
theorem ok_wk {ws : List Str} {f : Nat} : ∀ (k : Kd) {u : Nat}, k.ok ws f u → k.wk f u
  | .int, _, _ => trivial
  | .free n, _, h => h
  | .var n, _, h => h
  | .un w k, _, h => ok_wk k h.2.2
  | .mn m ks, _, h => oks_wk ks h.2.2.2
  | .to n ks l, _, h => ⟨oks_wk ks h.2.2.1, ok_wk l h.2.2.2⟩
theorem oks_wk {ws : List Str} {f : Nat} : ∀ (ks : Ks) {u : Nat}, ks.ok ws f u → ks.wk f u
  | .nil, _, _ => trivial
  | .cons _ k r, _, h => ⟨ok_wk k h.1, oks_wk r h.2⟩
end
theorem hd_d (k : Kd) : isHd k.d = true := by
  cases k with
  | mn m ks => cases m <;> rfl
  | un w k => rfl
  | _ => rfl
theorem hd_ds : ∀ ks : Ks, ks.ds.all isHd = true
  | .nil => rfl
  | .cons b k r => by show (isHd k.d && r.ds.all isHd) = true; rw [hd_d, hd_ds r]; rfl
theorem pr_fs : ∀ ks : Ks, ks.fs.all isPr = true
  | .nil => rfl
  | .cons b k r => by show (true && r.fs.all isPr) = true; rw [pr_fs r]; rfl
theorem pr_gs : ∀ ks : Ks, ks.gs.all isPr = true
  | .nil => rfl
  | .cons b k r => by show (true && r.gs.all isPr) = true; rw [pr_gs r]; rfl
theorem fs_fst : ∀ ks : Ks, ks.fs.map fst = ks.ds
  | .nil => rfl
  | .cons b k r => by show k.d :: r.fs.map fst = _; rw [fs_fst r]; rfl
theorem gs_snd : ∀ ks : Ks, ks.gs.map snd = ks.ds
  | .nil => rfl
  | .cons b k r => by show k.d :: r.gs.map snd = _; rw [gs_snd r]; rfl
theorem gs_fst : ∀ ks : Ks, ks.gs.map fst = ks.tgs
  | .nil => rfl
  | .cons b k r => by show b :: r.gs.map fst = _; rw [gs_fst r]; rfl
theorem fs_bl : ∀ ks : Ks, (ks.fs.all fun p => isBl (snd p)) = ks.tgs.all isBl
  | .nil => rfl
  | .cons b k r => by show (isBl b && r.fs.all _) = _; rw [fs_bl r]; rfl
theorem ds_ne : ∀ {ks : Ks}, 0 < ks.len → ks.ds.isEmpty = false
  | .cons b k r, _ => rfl
mutual
theorem isK_kd {ws : List Str} {f : Nat} : ∀ (k : Kd) (u n : Nat), k.ok ws f u → k.dep < n → isK ws f n (u : Int) k.d = true
  | .int, u, n + 1, h, _ => by
    have h : Str.ofString "int" ∈ ws := h
    simp [Kd.d, isK, form, inn, h]
  | .free v, u, n + 1, h, _ => by
    have h : v < f := h
    simp [Kd.d, isK, form, one1, isNt, numD, h]
  | .var v, u, n + 1, h, _ => by
    have h : v < u := h
    simp [Kd.d, isK, form, one1, isNt, numD, h]
  | .un w k, u, n + 1, h, hd => by
    have h1 := h.1
    have h2 := h.2.1
    have ih := isK_kd k (u + w.bn) n h.2.2 (by simp [Kd.dep] at hd; omega)
    cases w with
    | cel => simp at h1 ih; simp [Kd.d, isK, form, one1, hd_d, inn, bnn, h1, ih]
    | som => simp at h1 ih; simp [Kd.d, isK, form, one1, hd_d, inn, bnn, h1, ih]
    | re => simp at h1 ih; simp [Kd.d, isK, form, one1, hd_d, inn, bnn, h1, ih, h2 rfl]
  | .mn m ks, u, n + 1, h, hd => by
    have h1 := h.1
    have h2 := h.2.1
    have h3 := h.2.2.1
    have ih := isKs_kd ks (u + m.bn) n h.2.2.2 (by simp [Kd.dep] at hd; omega)
    cases m with
    | row => simp only [Mn.bn, Mn.nm, Nat.add_zero] at h1 ih; simp [Kd.d, isK, form, one1, isHds, hd_ds, inn, bnn, h1, items, -List.all_eq_true]; exact ih
    | one => simp only [Mn.bn, Mn.nm, Nat.add_zero] at h1 ih; simp [Kd.d, isK, form, one1, isHds, hd_ds, inn, bnn, h1, items, ds_ne h3, -List.all_eq_true]; exact ih
    | room =>
      simp only [Mn.bn, Mn.nm, Nat.add_zero] at h1 ih
      have h3 : ks.tgs.all isBl = true := h3
      simp only [Kd.d, isK, form, inn, bnn]
      simp [one1, isPrs, pr_fs, fs_bl, fs_fst, h1, items, h3, -List.all_eq_true]; exact ih
    | not b =>
      simp only [Mn.bn, Mn.nm] at h1 h2 ih
      have h2' : (b : Int) ≤ 10000 := by omega
      simp [Kd.d, isK, form, two2, isHds, hd_ds, inn, bnn, h1, items, inB, bnd, h2', numD, -List.all_eq_true]
      simpa using ih
    | code b =>
      simp only [Mn.bn, Mn.nm] at h1 h2 ih
      have h2' : (b : Int) ≤ 10000 := by omega
      have h3 : rising ks.tgs = true := h3
      simp only [Kd.d, isK, form, inn, bnn]
      simp [two2, isPrs, pr_gs, gs_fst, gs_snd, h1, items, inB, bnd, h2', numD, h3, -List.all_eq_true]
      simpa using ih
  | .to b ks l, u, n + 1, h, hd => by
    have h1 := h.1
    have h2 := h.2.1
    have ih := isKs_kd ks (u + b) n h.2.2.1 (by simp [Kd.dep] at hd; omega)
    have il := isK_kd l (u + b) n h.2.2.2 (by simp [Kd.dep] at hd; omega)
    have h2' : (b : Int) ≤ 10000 := by omega
    simp only [Int.natCast_add] at ih il
    simp only [Kd.d, isK, form, inn, bnn]
    simp [three3, isHds, hd_ds, hd_d, h1, items, inB, bnd, h2', numD, il, -List.all_eq_true]
    exact ih
theorem isKs_kd {ws : List Str} {f : Nat} : ∀ (ks : Ks) (u n : Nat), ks.ok ws f u → ks.dep < n → ks.ds.all (isK ws f n (u : Int)) = true
  | .nil, u, n, _, _ => rfl
  | .cons b k r, u, n, h, hd => by
    show (isK ws f n u k.d && r.ds.all _) = true
    rw [isK_kd k u n h.1 (by simp [Ks.dep] at hd; omega), isKs_kd r u n h.2 (by simp [Ks.dep] at hd; omega)]; rfl
end
mutual
theorem pl_kd {ws : List Str} {f : Nat} (hw : ∀ b : D, isBl b = true ∨ isNt b = true → pl b = true) : ∀ (k : Kd) (u : Nat), k.ok ws f u → k.sm → pl k.d = true
  | .int, u, _, _ => by simp [Kd.d, pl, pls]
  | .free v, u, _, _ => by simp [Kd.d, pl, pls]
  | .var v, u, _, _ => by simp [Kd.d, pl, pls]
  | .un w k, u, h, hs => by
    have ih := pl_kd hw k (u + w.bn) h.2.2 hs
    cases w <;> simp [Kd.d, pl, pls, ih]
  | .mn m ks, u, h, hs => by
    have ih := pls_kd hw ks (u + m.bn) h.2.2.2 hs.2
    have hz : ks.len ≤ 1000000 := by have := hs.1; omega
    cases m with
    | row => simp [Kd.d, pl, pls, ih, hz]
    | one => simp [Kd.d, pl, pls, ih, hz]
    | not b => simp [Kd.d, pl, pls, ih, hz]
    | room =>
      have h3 : ks.tgs.all isBl = true := h.2.2.1
      have := pls_fs ks ih fun b hb => hw b (.inl (List.all_eq_true.mp h3 b hb))
      simp [Kd.d, pl, pls, this, hz]
    | code b =>
      have h3 : rising ks.tgs = true := h.2.2.1
      simp only [rising, Bool.and_eq_true] at h3
      have := pls_gs ks ih fun b hb => hw b (.inr (List.all_eq_true.mp h3.1 b hb))
      simp [Kd.d, pl, pls, this, hz]
  | .to b ks l, u, h, hs => by
    have ih := pls_kd hw ks (u + b) h.2.2.1 hs.2.1
    have il := pl_kd hw l (u + b) h.2.2.2 hs.2.2
    have hz : ks.len ≤ 1000000 := by have := hs.1; omega
    simp [Kd.d, pl, pls, ih, il, hz]
theorem pls_kd {ws : List Str} {f : Nat} (hw : ∀ b : D, isBl b = true ∨ isNt b = true → pl b = true) : ∀ (ks : Ks) (u : Nat), ks.ok ws f u → ks.sm → pls ks.ds = true
  | .nil, u, _, _ => rfl
  | .cons b k r, u, h, hs => by
    show (pl k.d && pls r.ds) = true
    rw [pl_kd hw k u h.1 hs.1, pls_kd hw r u h.2 hs.2]; rfl
theorem pls_fs : ∀ (ks : Ks), pls ks.ds = true → (∀ b ∈ ks.tgs, pl b = true) → pls ks.fs = true
  | .nil, _, _ => rfl
  | .cons b k r, h, hb => by
    simp only [Ks.ds, pls, Bool.and_eq_true] at h
    have h1 := pls_fs r h.2 fun c hc => hb c (List.mem_cons_of_mem _ hc)
    have h2 := hb b List.mem_cons_self
    simp [Ks.fs, pl, pls, h.1, h1, h2]
theorem pls_gs : ∀ (ks : Ks), pls ks.ds = true → (∀ b ∈ ks.tgs, pl b = true) → pls ks.gs = true
  | .nil, _, _ => rfl
  | .cons b k r, h, hb => by
    simp only [Ks.ds, pls, Bool.and_eq_true] at h
    have h1 := pls_gs r h.2 fun c hc => hb c (List.mem_cons_of_mem _ hc)
    have h2 := hb b List.mem_cons_self
    simp [Ks.gs, pl, pls, h.1, h1, h2]
end
theorem tag_pl (b : D) (h : isBl b = true ∨ isNt b = true) : pl b = true := by
  rcases h with h | h <;> cases b <;> first | rfl | cases h
theorem kd_pl {ws : List Str} {f u : Nat} {k : Kd} (h : k.ok ws f u) (hs : k.sm) : pl k.d = true := pl_kd tag_pl k u h hs
theorem tag_dep {b : D} (h : isBl b = true ∨ isNt b = true) : b.dep = 0 := by
  rcases h with h | h <;> cases b <;> first | rfl | cases h
mutual
theorem dep_kd {ws : List Str} {f : Nat} : ∀ (k : Kd) (u : Nat), k.ok ws f u → k.d.dep ≤ 3 * k.dep + 1
  | .int, u, _ => by simp [Kd.d, D.dep, D.deps]
  | .free v, u, _ => by simp [Kd.d, D.dep, D.deps]
  | .var v, u, _ => by simp [Kd.d, D.dep, D.deps]
  | .un w k, u, h => by
    have ih := dep_kd k (u + w.bn) h.2.2
    cases w <;> simp [Kd.d, D.dep, D.deps, Kd.dep] <;> omega
  | .mn m ks, u, h => by
    have ih := deps_kd ks (u + m.bn) h.2.2.2
    cases m with
    | row => simp [Kd.d, D.dep, D.deps, Kd.dep]; omega
    | one => simp [Kd.d, D.dep, D.deps, Kd.dep]; omega
    | not b => simp [Kd.d, D.dep, D.deps, Kd.dep]; omega
    | room =>
      have h3 : ks.tgs.all isBl = true := h.2.2.1
      have := deps_fs ks fun b hb => .inl (List.all_eq_true.mp h3 b hb)
      simp [Kd.d, D.dep, D.deps, Kd.dep]; omega
    | code b =>
      have h3 : rising ks.tgs = true := h.2.2.1
      simp only [rising, Bool.and_eq_true] at h3
      have := deps_gs ks fun b hb => .inr (List.all_eq_true.mp h3.1 b hb)
      simp [Kd.d, D.dep, D.deps, Kd.dep]; omega
  | .to b ks l, u, h => by
    have ih := deps_kd ks (u + b) h.2.2.1
    have il := dep_kd l (u + b) h.2.2.2
    simp [Kd.d, D.dep, D.deps, Kd.dep]; omega
theorem deps_kd {ws : List Str} {f : Nat} : ∀ (ks : Ks) (u : Nat), ks.ok ws f u → D.deps ks.ds ≤ 3 * ks.dep + 1
  | .nil, u, _ => by simp [Ks.ds, D.deps]
  | .cons b k r, u, h => by
    have h1 := dep_kd k u h.1
    have h2 := deps_kd r u h.2
    simp [Ks.ds, D.deps, Ks.dep]; omega
theorem deps_fs : ∀ (ks : Ks), (∀ b ∈ ks.tgs, isBl b = true ∨ isNt b = true) → D.deps ks.fs ≤ D.deps ks.ds + 1
  | .nil, _ => by simp [Ks.fs, D.deps]
  | .cons b k r, hb => by
    have h1 := deps_fs r fun c hc => hb c (List.mem_cons_of_mem _ hc)
    have h2 := tag_dep (hb b List.mem_cons_self)
    simp [Ks.fs, Ks.ds, D.deps, D.dep, h2]; omega
theorem deps_gs : ∀ (ks : Ks), (∀ b ∈ ks.tgs, isBl b = true ∨ isNt b = true) → D.deps ks.gs ≤ D.deps ks.ds + 1
  | .nil, _ => by simp [Ks.gs, D.deps]
  | .cons b k r, hb => by
    have h1 := deps_gs r fun c hc => hb c (List.mem_cons_of_mem _ hc)
    have h2 := tag_dep (hb b List.mem_cons_self)
    simp [Ks.gs, Ks.ds, D.deps, D.dep, h2]; omega
end
theorem kd_pn {ws : List Str} {f u : Nat} {k : Kd} (h : k.ok ws f u) (hs : k.sm) {n : Nat} (hd : k.dep ≤ n) : PN (3 * n + 1) k.d := ⟨kd_pl h hs, by have := dep_kd k u h; omega⟩
/-- kinds in a row -/
def Ks.of : List Kd → Ks
  | [] => .nil
  | k :: r => .cons .non k (Ks.of r)
def Ks.ofT : List (D × Kd) → Ks
  | [] => .nil
  | (b, k) :: r => .cons b k (Ks.ofT r)
theorem of_ds : ∀ ks : List Kd, (Ks.of ks).ds = ks.map Kd.d
  | [] => rfl
  | k :: r => by show k.d :: (Ks.of r).ds = _; rw [of_ds r]; rfl
theorem of_len : ∀ ks : List Kd, (Ks.of ks).len = ks.length
  | [] => rfl
  | k :: r => by show (Ks.of r).len + 1 = _; rw [of_len r]; rfl
theorem ofT_fs : ∀ ks : List (D × Kd), (Ks.ofT ks).fs = ks.map fun p => .tup [p.2.d, p.1]
  | [] => rfl
  | (b, k) :: r => by show D.tup [k.d, b] :: (Ks.ofT r).fs = _; rw [ofT_fs r]; rfl
theorem ofT_gs : ∀ ks : List (D × Kd), (Ks.ofT ks).gs = ks.map fun p => .tup [p.1, p.2.d]
  | [] => rfl
  | (b, k) :: r => by show D.tup [b, k.d] :: (Ks.ofT r).gs = _; rw [ofT_gs r]; rfl
theorem ofT_tgs : ∀ ks : List (D × Kd), (Ks.ofT ks).tgs = ks.map (·.1)
  | [] => rfl
  | (b, k) :: r => by show b :: (Ks.ofT r).tgs = _; rw [ofT_tgs r]; rfl
theorem ofT_len : ∀ ks : List (D × Kd), (Ks.ofT ks).len = ks.length
  | [] => rfl
  | (b, k) :: r => by show (Ks.ofT r).len + 1 = _; rw [ofT_len r]; rfl
/-- a good kind -/
structure Gd (ws : List Str) (f u dp : Nat) (k : Kd) : Prop where
  ok : k.ok ws f u
  sm : k.sm
  dep : k.dep ≤ dp
structure Gds (ws : List Str) (f u dp : Nat) (k : Ks) : Prop where
  ok : k.ok ws f u
  sm : k.sm
  dep : k.dep ≤ dp
theorem of_gd {ws : List Str} {f u dp : Nat} : ∀ {ks : List Kd}, (∀ k ∈ ks, Gd ws f u dp k) → Gds ws f u dp (Ks.of ks)
  | [], _ => ⟨trivial, trivial, Nat.zero_le _⟩
  | k :: r, h => by
    have h1 := h k List.mem_cons_self
    have h2 := of_gd fun c hc => h c (List.mem_cons_of_mem _ hc)
    exact ⟨⟨h1.ok, h2.ok⟩, ⟨h1.sm, h2.sm⟩, Nat.max_le.mpr ⟨h1.dep, h2.dep⟩⟩
theorem ofT_gd {ws : List Str} {f u dp : Nat} : ∀ {ks : List (D × Kd)}, (∀ k ∈ ks, Gd ws f u dp k.2) → Gds ws f u dp (Ks.ofT ks)
  | [], _ => ⟨trivial, trivial, Nat.zero_le _⟩
  | (b, k) :: r, h => by
    have h1 := h (b, k) List.mem_cons_self
    have h2 := ofT_gd fun c hc => h c (List.mem_cons_of_mem _ hc)
    exact ⟨⟨h1.ok, h2.ok⟩, ⟨h1.sm, h2.sm⟩, Nat.max_le.mpr ⟨h1.dep, h2.dep⟩⟩
/-! ### loops that draw -/
theorem lcS {Z : Type} {turn : D → Hh → R (Option D)} {Inv : Hh → Prop} (e : Z → D) (Q : Z → Prop) : ∀ {xs : List D} {acc : List D} {h : Hh}, Inv h → (∀ x ∈ xs, ∀ h, Inv h → ∃ z h', turn x h = .ok (some (e z)) h' ∧ Q z ∧ Inv h') →
    ∃ (zs : List Z) (h' : Hh), lcLoop (fun _ => true) turn xs acc h = .ok (.lst (acc ++ zs.map e)) h' ∧ zs.length = xs.length ∧ (∀ z ∈ zs, Q z) ∧ Inv h'
  | [], acc, h, hi, _ => ⟨[], h, by unfold lcLoop; simp, rfl, by simp, hi⟩
  | x :: xs, acc, h, hi, t => by
    obtain ⟨z, h1, e1, q1, i1⟩ := t x List.mem_cons_self h hi
    obtain ⟨zs, h2, e2, l2, q2, i2⟩ := lcS e Q (xs := xs) (acc := acc ++ [e z]) i1 fun y hy => t y (List.mem_cons_of_mem _ hy)
    refine ⟨z :: zs, h2, ?_, by simp [l2], ?_, i2⟩
    · unfold lcLoop
      rw [if_pos rfl, e1]
      dsimp only
      rw [e2]; simp
    · intro y hy
      (rcases List.mem_cons.mp hy with rfl | hy)
      · exact q1
      · exact q2 y hy
theorem lcW {turn : D → Hh → R (Option D)} {h : Hh} (p : Str → Bool) : ∀ {xs : List Str} {acc : List D}, (∀ x ∈ xs, turn (.str x) h = .ok (if p x then some (.str x) else none) h) → lcLoop (fun _ => true) turn (xs.map D.str) acc h = .ok (.lst (acc ++ (xs.filter p).map D.str)) h
  | [], acc, _ => by unfold lcLoop; simp
  | x :: xs, acc, t => by
    show lcLoop _ turn (D.str x :: xs.map D.str) acc h = _
    unfold lcLoop
    rw [if_pos rfl, t x List.mem_cons_self]
    have ih := fun acc => lcW p (xs := xs) (acc := acc) fun y hy => t y (List.mem_cons_of_mem _ hy)
    cases q : p x with
    | false => simp only [Bool.false_eq_true, if_false]; rw [ih, List.filter_cons_of_neg (by simp [q])]
    | true => simp only [if_true]; rw [ih, List.filter_cons_of_pos q]; simp
end Kn
end

section
/-! KdP: replacings of good kinds. No program in sight. -/
set_option maxRecDepth 100000
namespace Kn
open PySem PV
mutual
/-- the same, where they are the same at the variables in scope, s more around -/
theorem tr_eqs {g g' : Leaf} {F s : Nat} : ∀ (k : Kd) (u : Nat), k.wk F (u + s) → (∀ v, u ≤ v → (∀ n, n < F → g v true n = g' v true n) ∧ ∀ n, n < v + s → g v false n = g' v false n) → k.tr g u = k.tr g' u
  | .int, u, _, _ => rfl
  | .free n, u, hw, h => (h u (Nat.le_refl _)).1 n hw
  | .var n, u, hw, h => (h u (Nat.le_refl _)).2 n hw
  | .un w k, u, hw, h => by
    have hw : k.wk F (u + s + w.bn) := hw
    simp only [Kd.tr]; rw [tr_eqs k (u + w.bn) (by rw [Nat.add_right_comm]; exact hw) fun v hv => h v (by omega)]
  | .mn m ks, u, hw, h => by
    have hw : ks.wk F (u + s + m.bn) := hw
    simp only [Kd.tr]; rw [trs_eqs ks (u + m.bn) (by rw [Nat.add_right_comm]; exact hw) fun v hv => h v (by omega)]
  | .to n ks l, u, hw, h => by
    have h1 : ks.wk F (u + s + n) := hw.1
    have h2 : l.wk F (u + s + n) := hw.2
    simp only [Kd.tr]; rw [trs_eqs ks (u + n) (by rw [Nat.add_right_comm]; exact h1) fun v hv => h v (by omega), tr_eqs l (u + n) (by rw [Nat.add_right_comm]; exact h2) fun v hv => h v (by omega)]
theorem trs_eqs {g g' : Leaf} {F s : Nat} : ∀ (ks : Ks) (u : Nat), ks.wk F (u + s) → (∀ v, u ≤ v → (∀ n, n < F → g v true n = g' v true n) ∧ ∀ n, n < v + s → g v false n = g' v false n) → ks.tr g u = ks.tr g' u
  | .nil, u, _, _ => rfl
  | .cons b k r, u, hw, h => by simp only [Ks.tr]; rw [tr_eqs k u hw.1 h, trs_eqs r u hw.2 h]
end
theorem tgs_tr (g : Leaf) (u : Nat) : ∀ ks : Ks, (ks.tr g u).tgs = ks.tgs
  | .nil => rfl
  | .cons b k r => by show b :: (r.tr g u).tgs = _; rw [tgs_tr g u r]; rfl
theorem tagOk_tr {g : Leaf} {u : Nat} {ks : Ks} {m : Mn} (h : m.tagOk ks) : m.tagOk (ks.tr g u) := by
  cases m with
  | one => show 0 < (ks.tr g u).len; rw [tr_len]; exact h
  | room => show (ks.tr g u).tgs.all isBl = true; rw [tgs_tr]; exact h
  | code n => show rising (ks.tr g u).tgs = true; rw [tgs_tr]; exact h
  | _ => trivial
theorem hdV_tr {g : Leaf} {u : Nat} {k : Kd} (h : hdV k.d = false) : hdV (k.tr g u).d = false := by
  cases k with
  | int => rfl
  | free n => simp [hdV, Kd.d] at h
  | var n => simp [hdV, Kd.d] at h
  | un w k => cases w <;> simp [hdV, Kd.d, Kd.tr]
  | mn m ks => cases m <;> simp [hdV, Kd.d, Kd.tr]
  | to n ks l => simp [hdV, Kd.d, Kd.tr]
mutual
/-- good kinds stay good; s: how many more the old scope has -/
theorem tr_ok {g : Leaf} {ws : List Str} {F F' s t : Nat} : ∀ (k : Kd) (u : Nat), k.ok ws F (u + s) → (∀ v, u ≤ v → (∀ n, n < F → (g v true n).ok ws F' (v + t)) ∧ ∀ n, n < v + s → (g v false n).ok ws F' (v + t)) → (k.tr g u).ok ws F' (u + t)
  | .int, u, hw, _ => hw
  | .free n, u, hw, h => (h u (Nat.le_refl _)).1 n hw
  | .var n, u, hw, h => (h u (Nat.le_refl _)).2 n hw
  | .un w k, u, hw, h => by
    have h3 : k.ok ws F (u + s + w.bn) := hw.2.2
    have := tr_ok k (u + w.bn) (by rw [Nat.add_right_comm]; exact h3) fun v hv => h v (by omega)
    exact ⟨hw.1, fun e => hdV_tr (hw.2.1 e), by rw [Nat.add_right_comm] at this; exact this⟩
  | .mn m ks, u, hw, h => by
    have h3 : ks.ok ws F (u + s + m.bn) := hw.2.2.2
    have := trs_ok ks (u + m.bn) (by rw [Nat.add_right_comm]; exact h3) fun v hv => h v (by omega)
    exact ⟨hw.1, hw.2.1, tagOk_tr hw.2.2.1, by rw [Nat.add_right_comm] at this; exact this⟩
  | .to n ks l, u, hw, h => by
    have h3 : ks.ok ws F (u + s + n) := hw.2.2.1
    have h4 : l.ok ws F (u + s + n) := hw.2.2.2
    have a := trs_ok ks (u + n) (by rw [Nat.add_right_comm]; exact h3) fun v hv => h v (by omega)
    have b := tr_ok l (u + n) (by rw [Nat.add_right_comm]; exact h4) fun v hv => h v (by omega)
    exact ⟨hw.1, hw.2.1, by rw [Nat.add_right_comm] at a; exact a, by rw [Nat.add_right_comm] at b; exact b⟩
theorem trs_ok {g : Leaf} {ws : List Str} {F F' s t : Nat} : ∀ (ks : Ks) (u : Nat), ks.ok ws F (u + s) → (∀ v, u ≤ v → (∀ n, n < F → (g v true n).ok ws F' (v + t)) ∧ ∀ n, n < v + s → (g v false n).ok ws F' (v + t)) → (ks.tr g u).ok ws F' (u + t)
  | .nil, u, _, _ => trivial
  | .cons b k r, u, hw, h => ⟨tr_ok k u hw.1 h, trs_ok r u hw.2 h⟩
end
mutual
theorem ok_le {ws : List Str} {F F' : Nat} : ∀ (k : Kd) {u u' : Nat}, k.ok ws F u → F ≤ F' → u ≤ u' → k.ok ws F' u'
  | .int, _, _, h, _, _ => h
  | .free n, _, _, h, hf, _ => Nat.lt_of_lt_of_le h hf
  | .var n, _, _, h, _, hu => Nat.lt_of_lt_of_le h hu
  | .un w k, u, u', h, hf, hu => ⟨h.1, h.2.1, ok_le k h.2.2 hf (by omega)⟩
  | .mn m ks, u, u', h, hf, hu => ⟨h.1, h.2.1, h.2.2.1, oks_le ks h.2.2.2 hf (by omega)⟩
  | .to n ks l, u, u', h, hf, hu => ⟨h.1, h.2.1, oks_le ks h.2.2.1 hf (by omega), ok_le l h.2.2.2 hf (by omega)⟩
theorem oks_le {ws : List Str} {F F' : Nat} : ∀ (ks : Ks) {u u' : Nat}, ks.ok ws F u → F ≤ F' → u ≤ u' → ks.ok ws F' u'
  | .nil, _, _, _, _, _ => trivial
  | .cons b k r, _, _, h, hf, hu => ⟨ok_le k h.1 hf hu, oks_le r h.2 hf hu⟩
end
mutual
theorem ok_ws {ws ws' : List Str} {F : Nat} (hs : ∀ w ∈ ws, w ∈ ws') : ∀ (k : Kd) {u : Nat}, k.ok ws F u → k.ok ws' F u
  | .int, _, h => hs _ h
  | .free n, _, h => h
  | .var n, _, h => h
  | .un w k, u, h => ⟨hs _ h.1, h.2.1, ok_ws hs k h.2.2⟩
  | .mn m ks, u, h => ⟨hs _ h.1, h.2.1, h.2.2.1, oks_ws hs ks h.2.2.2⟩
  | .to n ks l, u, h => ⟨hs _ h.1, h.2.1, oks_ws hs ks h.2.2.1, ok_ws hs l h.2.2.2⟩
theorem oks_ws {ws ws' : List Str} {F : Nat} (hs : ∀ w ∈ ws, w ∈ ws') : ∀ (ks : Ks) {u : Nat}, ks.ok ws F u → ks.ok ws' F u
  | .nil, _, _ => trivial
  | .cons b k r, _, h => ⟨ok_ws hs k h.1, oks_ws hs r h.2⟩
end
/-- closed kinds, put in -/
theorem putG_ok {ws : List Str} {F : Nat} {ss : List Kd} (h : ∀ k ∈ ss, k.ok ws F 0) (v : Nat) : (∀ n, n < F → (putG ss v true n).ok ws F (v + 0)) ∧ ∀ n, n < v + ss.length → (putG ss v false n).ok ws F (v + 0) := by
  refine ⟨fun n hn => hn, fun n hn => ?_⟩
  unfold putG
  (simp only [Bool.false_eq_true, if_false])
  split
  · rename_i hv; exact hv
  · rename_i hv
    have : n - v < ss.length := by omega
    rw [List.getElem?_eq_getElem this]
    exact ok_le _ (h _ (List.getElem_mem this)) (Nat.le_refl _) (Nat.zero_le _)
/-- the first ones, when more are bound -/
theorem putG_ok2 {ws : List Str} {F s : Nat} {ss : List Kd} (h : ∀ k ∈ ss, k.ok ws F 0) (hs : ss.length ≤ s) (v : Nat) : (∀ n, n < F → (putG ss v true n).ok ws F (v + (s - ss.length))) ∧ ∀ n, n < v + s → (putG ss v false n).ok ws F (v + (s - ss.length)) := by
  refine ⟨fun n hn => hn, fun n hn => ?_⟩
  unfold putG
  (simp only [Bool.false_eq_true, if_false])
  split
  · show n < v + (s - ss.length); omega
  · rename_i hv
    by_cases hq : n - v < ss.length
    · rw [List.getElem?_eq_getElem hq]
      exact ok_le _ (h _ (List.getElem_mem hq)) (Nat.le_refl _) (Nat.zero_le _)
    · rw [List.getElem?_eq_none (by omega)]
      show n - ss.length < v + (s - ss.length); omega
theorem putG_sm {ss : List Kd} (h : ∀ k ∈ ss, k.sm) (v : Nat) (f : Bool) (n : Nat) : (putG ss v f n).sm := by
  unfold putG
  split
  · trivial
  · split
    · trivial
    · cases e : ss[n - v]? with
      | none => trivial
      | some k => exact h k (List.mem_of_getElem? e)
theorem putG_dep {ss : List Kd} {N : Nat} (h : ∀ k ∈ ss, k.dep ≤ N) (v : Nat) (f : Bool) (n : Nat) : (putG ss v f n).dep ≤ N := by
  unfold putG
  split
  · exact Nat.zero_le _
  · split
    · exact Nat.zero_le _
    · cases e : ss[n - v]? with
      | none => exact Nat.zero_le _
      | some k => exact h k (List.mem_of_getElem? e)
theorem putG_stay {F : Nat} {ss : List Kd} (k : Kd) (u : Nat) (h : k.wk F 0) : k.tr (putG ss) u = k :=
  tr_stay (F := F) k u (wk_le k h (Nat.le_refl _) (Nat.zero_le _)) fun v hv => ⟨fun n _ => rfl, fun n hn => by unfold putG; simp [hn]⟩
/-- first some, then the others: all -/
theorem put_put {F : Nat} {ss : List Kd} (h : ∀ k ∈ ss, k.wk F 0) (f : Nat) (hf : f ≤ ss.length) (ks : Ks) (hw : ks.wk F ss.length) : (ks.tr (putG (ss.take f)) 0).tr (putG (ss.drop f)) 0 = ks.tr (putG ss) 0 := by
  rw [trs_trs]
  refine trs_eqs (F := F) (s := ss.length) ks 0 (by rw [Nat.zero_add]; exact hw) fun v _ => ⟨fun n _ => rfl, fun n hn => ?_⟩
  have hl : (ss.take f).length = f := by rw [List.length_take]; omega
  by_cases h1 : n < v
  · simp [putG, h1, Kd.tr]
  · by_cases h2 : n - v < f
    · have e1 : (ss.take f)[n - v]? = some ss[n - v] := by rw [List.getElem?_take_of_lt h2, List.getElem?_eq_getElem (by omega)]
      have e2 : ss[n - v]? = some ss[n - v] := List.getElem?_eq_getElem (by omega)
      have a1 : putG (ss.take f) v false n = ss[n - v] := by unfold putG; simp only [Bool.false_eq_true, if_false, h1]; rw [e1]
      have a2 : putG ss v false n = ss[n - v] := by unfold putG; simp only [Bool.false_eq_true, if_false, h1]; rw [e2]
      rw [a1, a2]
      exact putG_stay (F := F) _ v (h _ (List.getElem_mem _))
    · have e1 : (ss.take f)[n - v]? = none := List.getElem?_eq_none (by omega)
      have e2 : ss[n - v]? = some ss[n - v] := List.getElem?_eq_getElem (by omega)
      have a1 : putG (ss.take f) v false n = .var (n - f) := by unfold putG; simp only [Bool.false_eq_true, if_false, h1]; rw [e1, hl]
      have a2 : putG ss v false n = ss[n - v] := by unfold putG; simp only [Bool.false_eq_true, if_false, h1]; rw [e2]
      rw [a1, a2]
      have h3 : ¬ n - f < v := by omega
      have e3 : (ss.drop f)[n - f - v]? = some ss[n - v] := by
        rw [List.getElem?_drop]
        have : f + (n - f - v) = n - v := by omega
        rw [this]; exact e2
      show putG (ss.drop f) v false (n - f) = _
      unfold putG; simp only [Bool.false_eq_true, if_false, h3]; rw [e3]
/-- opened behind shut is filled -/
theorem shut_put (k k0 : Kd) (hw : k.wk 4 0) : (k.tr (shutG [2]) 0).tr (putG [k0]) 0 = k.tr (fillG [.free 0, .free 1, k0, .free 3]) 0 := by
  rw [tr_tr]
  refine tr_eq (F := 4) k 0 hw fun v _ => ⟨fun n hn => ?_, fun n hn => ?_⟩
  · have : n = 0 ∨ n = 1 ∨ n = 2 ∨ n = 3 := by omega
    rcases this with rfl | rfl | rfl | rfl
    · rfl
    · rfl
    · show (Kd.var (v + 0)).tr (putG [k0]) v = _
      simp [Kd.tr, putG, fillG]
    · rfl
  · simp [shutG, hn, Kd.tr, putG, fillG]
end Kn
end

section
set_option maxRecDepth 100000
namespace K70
open PySem PV Kn
@[simp] theorem turn_v {F : Fns} {G : List D} {i : Nat} {c e : E} {ρ : PV.Env} {x : D} {h : Hh} : lcTurn (.v i) (evE F G c) (evE F G e) ρ x h = ((evE F G c).t (ρ.set i (some x)) h).bnd (fun ok h3 => if ok then ((evE F G e).v (ρ.set i (some x)) h3).bnd (fun y h4 => .ok (some y) h4) ⟨⟩ else .ok none h3) ⟨⟩ := id rfl
@[simp] theorem turn_tu {F : Fns} {G : List D} {i j : Nat} {c e : E} {ρ : PV.Env} {x y : D} {h : Hh} : lcTurn (.tu [i, j]) (evE F G c) (evE F G e) ρ (.tup [x, y]) h = ((evE F G c).t ((ρ.set i (some x)).set j (some y)) h).bnd (fun ok h3 => if ok then ((evE F G e).v ((ρ.set i (some x)).set j (some y)) h3).bnd (fun y h4 => .ok (some y) h4) ⟨⟩ else .ok none h3) ⟨⟩ := id rfl
section
variable {k : Nat} {h : Hh} {r0 r1 r2 r3 r4 : Option D}
theorem ins_fs : ∀ ks : Ks, A2 (fun x y => lcTurn (.tu [2, 3]) (evE (F k) G c_insides_0) (evE (F k) G x_insides_0) [r0, r1, r2, r3, r4] x h = .ok (some y) h) ks.fs ks.ds
  | .nil => .nil
  | .cons b kd r => .cons (by simp) (ins_fs r)
theorem ins_gs : ∀ ks : Ks, A2 (fun x y => lcTurn (.tu [4, 2]) (evE (F k) G c_insides_1) (evE (F k) G x_insides_1) [r0, r1, r2, r3, r4] x h = .ok (some y) h) ks.gs ks.ds
  | .nil => .nil
  | .cons b kd r => .cons (by simp) (ins_gs r)
end
theorem insides_ok (k : Nat) (h : Hh) (d : Kd) (hs : d.sm) : C (k + 1) n_insides [d.d] h = .ok (.tup d.ins) h := by
  cases d with
  | un w d => cases w <;> simp [C_insides, Kd.d, Kd.ins]
  | int => simp [C_insides, Kd.d, Kd.ins]
  | free n => simp [C_insides, Kd.d, Kd.ins]
  | var n => simp [C_insides, Kd.d, Kd.ins]
  | to n ks l =>
    have hz : ks.len ≤ 16777215 := by have := hs.1; omega
    simp [C_insides, Kd.d, Kd.ins, hz]
  | mn m ks =>
    have hz : ks.len ≤ 16777216 := by have := hs.1; omega
    cases m <;> simp [C_insides, Kd.d, Kd.ins, hz, lcA (ins_fs ks), lcA (ins_gs ks)]
theorem binds_ok (k : Nat) (h : Hh) (d : Kd) : C (k + 1) n_binds [d.d] h = .ok (.int d.bn) h := by
  cases d with
  | un w d => cases w <;> simp [C_binds, Kd.d, Kd.bn]
  | mn m ks => cases m <;> simp [C_binds, Kd.d, Kd.bn]
  | _ => simp [C_binds, Kd.d, Kd.bn]
/-! ### with_insides -/
section
variable {k : Nat} {h : Hh} {r0 r1 r2 r3 r4 : Option D} {g : Leaf} {u : Nat}
theorem with_fs : ∀ ks : Ks, A2 (fun x y => lcTurn (.tu [3, 4]) (evE (F k) G c_with_insides_0) (evE (F k) G x_with_insides_0) [r0, r1, r2, r3, r4] x h = .ok (some y) h) (zipD (ks.tr g u).ds ks.fs) (ks.tr g u).fs
  | .nil => .nil
  | .cons b kd r => .cons (by simp) (with_fs r)
theorem with_gs : ∀ ks : Ks, A2 (fun x y => lcTurn (.tu [3, 4]) (evE (F k) G c_with_insides_1) (evE (F k) G x_with_insides_1) [r0, r1, r2, r3, r4] x h = .ok (some y) h) (zipD (ks.tr g u).ds ks.gs) (ks.tr g u).gs
  | .nil => .nil
  | .cons b kd r => .cons (by simp) (with_gs r)
end
theorem zipD_len (xs ys : List D) : (zipD xs ys).length = min xs.length ys.length := by simp [zipD]
theorem with_inn (k : Nat) (h : Hh) (g : Leaf) (u : Nat) (d : Kd) (hs : d.sm) (hl : d.leaf = false) : C (k + 1) n_with_insides [d.d, .tup (d.ini g u)] h = .ok (d.inn g u).d h := by
  cases d with
  | un w d => cases w <;> simp [C_with_insides, Kd.d, Kd.ini, Kd.inn]
  | to n ks l =>
    have hz : ks.len ≤ 16777215 := by have := hs.1; omega
    simp [C_with_insides, Kd.d, Kd.ini, Kd.inn, hz]
  | mn m ks =>
    have hz : ks.len ≤ 16777216 := by have := hs.1; omega
    cases m <;> simp [C_with_insides, Kd.d, Kd.ini, Kd.inn, zipD_len, hz, lcA (with_fs ks), lcA (with_gs ks)]
  | _ => cases hl
theorem with_ok (k : Nat) (h : Hh) (g : Leaf) (u : Nat) (d : Kd) (hs : d.sm) (hl : d.leaf = false) : C (k + 1) n_with_insides [d.d, .tup (d.tri g u)] h = .ok (d.tr g u).d h := by
  rw [tri_ini, tr_inn g u hl]; exact with_inn k h g _ d hs hl
theorem with_leaf (k : Nat) (h : Hh) (d : Kd) (hl : d.leaf = true) : C (k + 1) n_with_insides [d.d, .tup []] h = .ok d.d h := by
  cases d <;> simp [Kd.leaf] at hl <;> simp [C_with_insides, Kd.d]
/-! ### the replacings -/
theorem ins_len (d : Kd) (hs : d.sm) : d.ins.length ≤ 1001 := by
  cases d <;> simp [Kd.ins]
  · exact Nat.le_trans hs.1 (by omega)
  · exact hs.1
def kds (ss : List Kd) : List D := ss.map Kd.d
@[simp] theorem kds_len (ss : List Kd) : (kds ss).length = ss.length := List.length_map ..
theorem kds_at {ss : List Kd} {n : Nat} (hn : n < ss.length) : L2.atI (kds ss) (n : Int) = some (ss[n].d) := L2.atI_nat (by simp [kds, List.getElem?_eq_getElem hn])
def Kd.nm : Kd → Str
  | .int => "int" | .free _ => "free" | .var _ => "var" | .un w _ => w.nm | .mn m _ => m.nm | .to _ _ _ => "to"
theorem idx0 (h : Hh) (d : Kd) : opIdx h d.d (.int 0) = some (.str (Kd.nm d)) := by
  cases d with
  | un w d => cases w <;> simp [Kd.d, Kd.nm]
  | mn m ks => cases m <;> simp [Kd.d, Kd.nm]
  | _ => simp [Kd.d, Kd.nm]
theorem nm_var {d : Kd} (hl : d.leaf = false) : (Kd.nm d = Str.ofString "var") = False := by
  cases d with
  | un w d => cases w <;> simp [Kd.nm]
  | mn m ks => cases m <;> simp [Kd.nm]
  | to n ks l => simp [Kd.nm]
  | _ => cases hl
theorem nm_free {d : Kd} (hl : d.leaf = false) : (Kd.nm d = Str.ofString "free") = False := by
  cases d with
  | un w d => cases w <;> simp [Kd.nm]
  | mn m ks => cases m <;> simp [Kd.nm]
  | to n ks l => simp [Kd.nm]
  | _ => cases hl
section
variable {h : Hh} {ss : List Kd} {u m : Nat} {d : Kd}
theorem put_turns {xs ys : List D} {r0 r3 : Option D} {mo : Int} (hb : A2 (fun x y => C (m + 1) n_put_below [x, .int mo, .tup (kds ss)] h = .ok y h) xs ys) :
    A2 (fun x y => lcTurn (.v 5) (evE (F (m + 1)) G c_put_below_0) (evE (F (m + 1)) G x_put_below_0) [r0, some (.int u), some (.tup (kds ss)), r3, some (.int mo), none] x h = .ok (some y) h) xs ys :=
  hb.imp fun x y p => by simp [p]
theorem put_step (hs : d.sm) (hl : d.leaf = false) (hb : A2 (fun x y => C (m + 1) n_put_below [x, .int (u + d.bn : Nat), .tup (kds ss)] h = .ok y h) d.ins (d.tri (putG ss) u)) :
    C (m + 2) n_put_below [d.d, .int u, .tup (kds ss)] h = .ok (d.tr (putG ss) u).d h := by
  have hz : d.ins.length ≤ 16777216 := by have := ins_len d hs; omega
  have hb' := put_turns (u := u) (r0 := some d.d) (r3 := none) hb
  simp only [Int.natCast_add] at hb'
  simp [C_put_below, idx0, nm_var hl, binds_ok, insides_ok m h d hs, hz, lcA hb', with_ok m h (putG ss) u d hs hl]
end
end K70
end

section
set_option maxRecDepth 100000
namespace K70
open PySem PV Kn
theorem sub_nat {v u : Nat} (h : u ≤ v) : (v : Int) - (u : Int) = ((v - u : Nat) : Int) := (Int.ofNat_sub h).symm
section
variable {h : Hh} {ss : List Kd} {o : List Nat}
theorem put_var (m v u : Nat) : C (m + 1) n_put_below [(Kd.var v).d, .int u, .tup (kds ss)] h = .ok (putG ss u false v).d h := by
  unfold putG
  by_cases hu : v < u
  · have e : (v : Int) - (u : Int) < 0 := by omega
    simp [C_put_below, Kd.d, e, hu]
  · have e : ¬ (v : Int) - (u : Int) < 0 := by omega
    by_cases hc : v - u < ss.length
    · have e2 : (v : Int) - (u : Int) < (ss.length : Int) := by omega
      have e3 := kds_at hc
      rw [← sub_nat (by omega)] at e3
      simp [C_put_below, Kd.d, e, hu, e2, e3, hc]
    · have e2 : ¬ (v : Int) - (u : Int) < (ss.length : Int) := by omega
      have e3 : (v : Int) - (ss.length : Int) = ((v - ss.length : Nat) : Int) := sub_nat (by omega)
      have e4 : ss[v - u]? = none := List.getElem?_eq_none (by omega)
      simp [C_put_below, Kd.d, e, hu, e2, e4, e3]
mutual
theorem put_ok : ∀ (d : Kd) (u n : Nat), d.sm → d.dep ≤ n → C (n + 3) n_put_below [d.d, .int u, .tup (kds ss)] h = .ok (d.tr (putG ss) u).d h
  | .int, u, n, _, _ => by simp [C_put_below, C_binds, C_insides, C_with_insides, Kd.d, Kd.tr, lcLoop]
  | .free v, u, n, _, _ => by simp [C_put_below, C_binds, C_insides, C_with_insides, Kd.d, Kd.tr, lcLoop, putG]
  | .var v, u, n, _, _ => put_var (n + 2) v u
  | .un w d, u, n + 1, hs, hd => put_step (m := n + 2) hs rfl (.cons (put_ok d (u + w.bn) n hs (by simp [Kd.dep] at hd; omega)) .nil)
  | .mn m ks, u, n + 1, hs, hd => put_step (m := n + 2) hs rfl (puts_ok ks (u + m.bn) n hs.2 (by simp [Kd.dep] at hd; omega))
  | .to b ks l, u, n + 1, hs, hd => put_step (m := n + 2) hs rfl ((puts_ok ks (u + b) n hs.2.1 (by simp [Kd.dep] at hd; omega)).app (.cons (put_ok l (u + b) n hs.2.2 (by simp [Kd.dep] at hd; omega)) .nil))
  | .un _ _, _, 0, _, hd => by simp [Kd.dep] at hd
  | .mn _ _, _, 0, _, hd => by simp [Kd.dep] at hd
  | .to _ _ _, _, 0, _, hd => by simp [Kd.dep] at hd
theorem puts_ok : ∀ (ks : Ks) (u n : Nat), ks.sm → ks.dep ≤ n → A2 (fun x y => C (n + 3) n_put_below [x, .int u, .tup (kds ss)] h = .ok y h) ks.ds (ks.tr (putG ss) u).ds
  | .nil, u, n, _, _ => .nil
  | .cons b k r, u, n, hs, hd => .cons (put_ok k u n hs.1 (by simp [Ks.dep] at hd; omega)) (puts_ok r u n hs.2 (by simp [Ks.dep] at hd; omega))
end
/-! shut -/
def nds (o : List Nat) : List D := o.map fun n : Nat => .int (n : Int)
@[simp] theorem nds_len (o : List Nat) : (nds o).length = o.length := List.length_map ..
theorem ints_nds : ∀ o : List Nat, D.ints (nds o) = some (o.map fun n : Nat => (n : Int))
  | [] => rfl
  | n :: o => by show (D.ints (nds o)).map _ = _; rw [ints_nds o]; rfl
theorem nds_flat (o : List Nat) : (nds o).all D.flat = true := by simp [nds]
theorem nds_any (o : List Nat) (n : Nat) : ((nds o).any fun y => y.eqv (.int (n : Int))) = decide (n ∈ o) := by
  induction o with
  | nil => rfl
  | cons a o ih =>
    show ((a : Int) == (n : Int) || (nds o).any _) = _
    rw [ih]
    by_cases e : a = n
    · subst e; simp
    · have : ((a : Int) == (n : Int)) = false := beq_eq_false_iff_ne.mpr (by omega)
      have e' : ¬ n = a := fun q => e q.symm
      rw [this]; simp [e']
theorem in_nds (o : List Nat) (n : Nat) : opCmp .inn h (.int (n : Int)) (.ftup (nds o)) = some (decide (n ∈ o)) := by
  show (if (D.int (n : Int)).shp && (D.tup (nds o)).shp then some ((nds o).any fun y => y.eqv (.int (n : Int))) else none) = _
  rw [shp_flats (nds_flat o), nds_any]; rfl
theorem idxOf_cast (n : Nat) : ∀ o : List Nat, (o.map fun n : Nat => (n : Int)).idxOf (n : Int) = o.idxOf n
  | [] => rfl
  | a :: o => by
    rw [List.map_cons, List.idxOf_cons, List.idxOf_cons, idxOf_cast n o]
    by_cases e : a = n
    · subst e; simp
    · have : ((a : Int) == (n : Int)) = false := beq_eq_false_iff_ne.mpr (by omega)
      have e2 : (a == n) = false := by simpa using e
      rw [this, e2]
theorem idx_nds {o : List Nat} {n : Nat} (hn : n ∈ o) : idxD (nds o) [.int (n : Int)] = some (.int (o.idxOf n : Nat)) := by
  show (D.ints (nds o)).bind (fun ns => if (n : Int) ∈ ns then some (D.int (ns.idxOf (n : Int) : Nat)) else none) = _
  have hm : (n : Int) ∈ o.map fun n : Nat => (n : Int) := List.mem_map.mpr ⟨n, hn, rfl⟩
  rw [ints_nds, Option.bind_some, if_pos hm, idxOf_cast]
@[simp] theorem ixs_ft (xs : List D) : (D.ftup xs).ixs = some xs := rfl
@[simp] theorem ixs_lst (xs : List D) : (D.lst xs).ixs = some xs := rfl
@[simp] theorem lenF (xs : List D) : opBf .len h [.ftup xs] = some (.int xs.length) := rfl
theorem shut_leaf (m v u : Nat) (f : Bool) : C (m + 1) n_shut_below [(if f then Kd.free v else Kd.var v).d, .int u, .ftup (nds o)] h = .ok (shutG o u f v).d h := by
  cases f with
  | true =>
    by_cases hv : v ∈ o
    · simp [C_shut_below, Kd.d, in_nds, hv, idx_nds, shutG]
    · simp [C_shut_below, Kd.d, in_nds, hv, shutG]
  | false =>
    by_cases hu : v < u
    · simp [C_shut_below, Kd.d, hu, shutG]
    · simp [C_shut_below, Kd.d, hu, shutG]
theorem shut_turns {xs ys : List D} {r0 : Option D} {mo : Int} {u m : Nat} (hb : A2 (fun x y => C (m + 1) n_shut_below [x, .int mo, .ftup (nds o)] h = .ok y h) xs ys) :
    A2 (fun x y => lcTurn (.v 4) (evE (F (m + 1)) G c_shut_below_0) (evE (F (m + 1)) G x_shut_below_0) [r0, some (.int u), some (.ftup (nds o)), some (.int mo), none] x h = .ok (some y) h) xs ys :=
  hb.imp fun x y p => by simp [p]
theorem shut_step {d : Kd} {u m : Nat} (hs : d.sm) (hl : d.leaf = false) (hb : A2 (fun x y => C (m + 1) n_shut_below [x, .int (u + d.bn : Nat), .ftup (nds o)] h = .ok y h) d.ins (d.tri (shutG o) u)) :
    C (m + 2) n_shut_below [d.d, .int u, .ftup (nds o)] h = .ok (d.tr (shutG o) u).d h := by
  have hz : d.ins.length ≤ 16777216 := by have := ins_len d hs; omega
  have hb' := shut_turns (u := u) (r0 := some d.d) hb
  simp only [Int.natCast_add] at hb'
  simp [C_shut_below, idx0, nm_var hl, nm_free hl, binds_ok, insides_ok m h d hs, hz, lcA hb', with_ok m h (shutG o) u d hs hl]
mutual
theorem shut_ok : ∀ (d : Kd) (u n : Nat), d.sm → d.dep ≤ n → C (n + 3) n_shut_below [d.d, .int u, .ftup (nds o)] h = .ok (d.tr (shutG o) u).d h
  | .int, u, n, _, _ => by simp [C_shut_below, C_binds, C_insides, C_with_insides, Kd.d, Kd.tr, lcLoop]
  | .free v, u, n, _, _ => shut_leaf (n + 2) v u true
  | .var v, u, n, _, _ => shut_leaf (n + 2) v u false
  | .un w d, u, n + 1, hs, hd => shut_step (m := n + 2) hs rfl (.cons (shut_ok d (u + w.bn) n hs (by simp [Kd.dep] at hd; omega)) .nil)
  | .mn m ks, u, n + 1, hs, hd => shut_step (m := n + 2) hs rfl (shuts_ok ks (u + m.bn) n hs.2 (by simp [Kd.dep] at hd; omega))
  | .to b ks l, u, n + 1, hs, hd => shut_step (m := n + 2) hs rfl ((shuts_ok ks (u + b) n hs.2.1 (by simp [Kd.dep] at hd; omega)).app (.cons (shut_ok l (u + b) n hs.2.2 (by simp [Kd.dep] at hd; omega)) .nil))
  | .un _ _, _, 0, _, hd => by simp [Kd.dep] at hd
  | .mn _ _, _, 0, _, hd => by simp [Kd.dep] at hd
  | .to _ _ _, _, 0, _, hd => by simp [Kd.dep] at hd
theorem shuts_ok : ∀ (ks : Ks) (u n : Nat), ks.sm → ks.dep ≤ n → A2 (fun x y => C (n + 3) n_shut_below [x, .int u, .ftup (nds o)] h = .ok y h) ks.ds (ks.tr (shutG o) u).ds
  | .nil, u, n, _, _ => .nil
  | .cons b k r, u, n, hs, hd => .cons (shut_ok k u n hs.1 (by simp [Ks.dep] at hd; omega)) (shuts_ok r u n hs.2 (by simp [Ks.dep] at hd; omega))
end
theorem shut_all (d : Kd) (n : Nat) (hs : d.sm) (hd : d.dep ≤ n) : C (n + 4) n_shut [d.d, .ftup (nds o)] h = .ok (d.tr (shutG o) 0).d h := by
  have := shut_ok (h := h) (o := o) d 0 n hs hd
  simp [C_shut] at this ⊢
  simp [this]
/-! filled -/
theorem fill_turns {xs ys : List D} {r0 : Option D} {m : Nat} (hb : A2 (fun x y => C (m + 1) n_filled [x, .tup (kds ss)] h = .ok y h) xs ys) :
    A2 (fun x y => lcTurn (.v 2) (evE (F (m + 1)) G c_filled_0) (evE (F (m + 1)) G x_filled_0) [r0, some (.tup (kds ss)), none] x h = .ok (some y) h) xs ys :=
  hb.imp fun x y p => by simp [p]
theorem fill_step {d : Kd} {u m : Nat} (hs : d.sm) (hl : d.leaf = false) (hb : A2 (fun x y => C (m + 1) n_filled [x, .tup (kds ss)] h = .ok y h) d.ins (d.tri (fillG ss) u)) :
    C (m + 2) n_filled [d.d, .tup (kds ss)] h = .ok (d.tr (fillG ss) u).d h := by
  have hz : d.ins.length ≤ 16777216 := by have := ins_len d hs; omega
  have hb' := fill_turns (r0 := some d.d) hb
  simp [C_filled, idx0, nm_free hl, insides_ok m h d hs, hz, lcA hb', with_ok m h (fillG ss) u d hs hl]
mutual
theorem fill_ok : ∀ (d : Kd) (u n : Nat), d.sm → d.wk ss.length u → d.dep ≤ n → C (n + 3) n_filled [d.d, .tup (kds ss)] h = .ok (d.tr (fillG ss) u).d h
  | .int, u, n, _, _, _ => by simp [C_filled, C_insides, C_with_insides, Kd.d, Kd.tr, lcLoop]
  | .free v, u, n, _, hw, _ => by
    have hw : v < ss.length := hw
    simp [C_filled, Kd.d, kds_at hw, Kd.tr, fillG, hw]
  | .var v, u, n, _, _, _ => by simp [C_filled, C_insides, C_with_insides, Kd.d, Kd.tr, lcLoop, fillG]
  | .un w d, u, n + 1, hs, hw, hd => fill_step (m := n + 2) hs rfl (.cons (fill_ok d (u + w.bn) n hs hw (by simp [Kd.dep] at hd; omega)) .nil)
  | .mn m ks, u, n + 1, hs, hw, hd => fill_step (m := n + 2) hs rfl (fills_ok ks (u + m.bn) n hs.2 hw (by simp [Kd.dep] at hd; omega))
  | .to b ks l, u, n + 1, hs, hw, hd => fill_step (m := n + 2) hs rfl ((fills_ok ks (u + b) n hs.2.1 hw.1 (by simp [Kd.dep] at hd; omega)).app (.cons (fill_ok l (u + b) n hs.2.2 hw.2 (by simp [Kd.dep] at hd; omega)) .nil))
  | .un _ _, _, 0, _, _, hd => by simp [Kd.dep] at hd
  | .mn _ _, _, 0, _, _, hd => by simp [Kd.dep] at hd
  | .to _ _ _, _, 0, _, _, hd => by simp [Kd.dep] at hd
theorem fills_ok : ∀ (ks : Ks) (u n : Nat), ks.sm → ks.wk ss.length u → ks.dep ≤ n → A2 (fun x y => C (n + 3) n_filled [x, .tup (kds ss)] h = .ok y h) ks.ds (ks.tr (fillG ss) u).ds
  | .nil, u, n, _, _, _ => .nil
  | .cons b k r, u, n, hs, hw, hd => .cons (fill_ok k u n hs.1 hw.1 (by simp [Ks.dep] at hd; omega)) (fills_ok r u n hs.2 hw.2 (by simp [Ks.dep] at hd; omega))
end
end
end K70
end

section
set_option maxRecDepth 100000
namespace K70
open PySem PV Kn
/-- a binder -/
def Kd.isB : Kd → Bool
  | .un .cel _ => false | .un _ _ => true
  | .mn (.not _) _ => true | .mn (.code _) _ => true
  | .to _ _ _ => true
  | _ => false
/-- what opened tells: the inside -/
def Kd.op : Kd → D
  | .un _ k => k.d
  | .mn (.code _) ks => .tup ks.gs
  | .mn _ ks => .tup ks.ds
  | .to _ ks l => .tup [.tup ks.ds, l.d]
  | k => k.d
theorem isB_leaf {d : Kd} (h : Kd.isB d = true) : d.leaf = false := by cases d <;> first | rfl | cases h
section
variable {h : Hh} {ss : List Kd} {d : Kd} {n : Nat}
theorem puts0 (hs : d.sm) (hd : d.dep ≤ n + 1) : A2 (fun x y => C (n + 3) n_put_below [x, .int 0, .tup (kds ss)] h = .ok y h) d.ins (d.ini (putG ss) 0) := by
  cases d with
  | un w k => exact .cons (put_ok k 0 n hs (by simp [Kd.dep] at hd; omega)) .nil
  | mn m ks => exact puts_ok ks 0 n hs.2 (by simp [Kd.dep] at hd; omega)
  | to b ks l => exact (puts_ok ks 0 n hs.2.1 (by simp [Kd.dep] at hd; omega)).app (.cons (put_ok l 0 n hs.2.2 (by simp [Kd.dep] at hd; omega)) .nil)
  | _ => exact .nil
theorem opened_turns {xs ys : List D} {r0 r2 : Option D} {m : Nat} (hb : A2 (fun x y => C m n_put_below [x, .int 0, .tup (kds ss)] h = .ok y h) xs ys) :
    A2 (fun x y => lcTurn (.v 3) (evE (F m) G c_opened_0) (evE (F m) G x_opened_0) [r0, some (.tup (kds ss)), r2, none] x h = .ok (some y) h) xs ys :=
  hb.imp fun x y p => by simp [p]
theorem opened_ok (hs : d.sm) (hB : Kd.isB d = true) (hd : d.dep ≤ n + 1) : C (n + 4) n_opened [d.d, .tup (kds ss)] h = .ok (Kd.op (d.inn (putG ss) 0)) h := by
  have hz : d.ins.length ≤ 16777216 := by have := ins_len d hs; omega
  have hb := opened_turns (r0 := some d.d) (r2 := none) (puts0 (h := h) (ss := ss) hs hd)
  have hw := with_inn (n + 2) h (putG ss) 0 d hs (isB_leaf hB)
  simp [C_opened, insides_ok (n + 2) h d hs, hz, lcA hb, hw, idx0]
  cases d with
  | un w k => cases w <;> first | (simp [Kd.nm, Kd.inn, Kd.d, Kd.op]; done) | cases hB
  | mn m ks => cases m <;> first | (simp [Kd.nm, Kd.inn, Kd.d, Kd.op]; done) | cases hB
  | to b ks l => simp [Kd.nm, Kd.inn, Kd.d, Kd.op]
  | _ => cases hB
/-- the first ones given -/
def Kd.first (s : Nat) : Kd → Kd
  | .mn (.not n) ks => .mn (.not (n - s)) ks
  | .mn (.code n) ks => .mn (.code (n - s)) ks
  | k => k
def Kd.isN : Kd → Bool
  | .mn (.not _) _ => true | .mn (.code _) _ => true
  | _ => false
theorem isN_leaf {d : Kd} (h : Kd.isN d = true) : d.leaf = false := by cases d <;> first | rfl | cases h
theorem first_turns {xs ys : List D} {r0 r2 r3 : Option D} {m : Nat} (hb : A2 (fun x y => C m n_put_below [x, .int 0, .tup (kds ss)] h = .ok y h) xs ys) :
    A2 (fun x y => lcTurn (.v 4) (evE (F m) G c_opened_first_0) (evE (F m) G x_opened_first_0) [r0, some (.tup (kds ss)), r2, r3, none] x h = .ok (some y) h) xs ys :=
  hb.imp fun x y p => by simp [p]
theorem idx1 (h : Hh) (hB : Kd.isN d = true) : opIdx h d.d (.int 1) = some (.int d.bn) := by
  cases d with
  | mn m ks => cases m <;> first | (simp [Kd.d, Kd.bn]; done) | cases hB
  | _ => cases hB
theorem first_ok (hs : d.sm) (hB : Kd.isN d = true) (hl : ss.length ≤ d.bn) (hd : d.dep ≤ n + 1) : C (n + 4) n_opened_first [d.d, .tup (kds ss)] h = .ok (Kd.first ss.length (d.inn (putG ss) 0)).d h := by
  have hz : d.ins.length ≤ 16777216 := by have := ins_len d hs; omega
  have hb := first_turns (r0 := some d.d) (r2 := some (.int (d.bn - ss.length : Int))) (r3 := none) (puts0 (h := h) (ss := ss) hs hd)
  have hw := with_inn (n + 2) h (putG ss) 0 d hs (isN_leaf hB)
  simp [C_opened_first, idx1 h hB, insides_ok (n + 2) h d hs, hz, lcA hb, hw, idx0]
  rw [sub_nat hl]
  cases d with
  | mn m ks => cases m <;> first | (simp [Kd.nm, Kd.inn, Kd.d, Kd.first, Kd.bn]; done) | cases hB
  | _ => cases hB
end
end K70
end

section
set_option maxRecDepth 100000
namespace K70
open PySem PV Kn
def lnm (f : Bool) : Str := if f then "free" else "var"
/-- a told table of variables -/
def Told (h : Hh) (t : D) (g : Leaf) (Fr : Nat) : Prop := ∀ (m v u : Nat) (f : Bool), (f = true → v < Fr) → C (m + 1) n__law_variable [.str (lnm f), .int v, .int u, t] h = .ok (g u f v).d h
section
variable {h : Hh} {ss : List Kd} {o : List Nat}
theorem told_put {Fr : Nat} : Told h (.lst [.str "put", .tup (kds ss)]) (putG ss) Fr := by
  intro m v u f hf
  unfold putG lnm
  cases f with
  | true => simp [C__law_variable, Kd.d]
  | false =>
    by_cases hu : v < u
    · simp [C__law_variable, Kd.d, hu]
    · by_cases hc : v - u < ss.length
      · have e2 : (v : Int) - (u : Int) < (ss.length : Int) := by omega
        have e3 := kds_at hc
        rw [← sub_nat (by omega)] at e3
        simp [C__law_variable, Kd.d, hu, e2, e3, hc]
      · have e2 : ¬ (v : Int) - (u : Int) < (ss.length : Int) := by omega
        have e3 : (v : Int) - (ss.length : Int) = ((v - ss.length : Nat) : Int) := sub_nat (by omega)
        have e4 : ss[v - u]? = none := List.getElem?_eq_none (by omega)
        simp [C__law_variable, Kd.d, hu, e2, e4, e3]
theorem told_fill : Told h (.lst [.str "fill", .tup (kds ss)]) (fillG ss) ss.length := by
  intro m v u f hf
  unfold fillG lnm
  cases f with
  | true =>
    have hv := hf rfl
    simp [C__law_variable, Kd.d, kds_at hv, hv]
  | false => simp [C__law_variable, Kd.d]
@[simp] theorem listF (xs : List D) : opBf .list h [.ftup xs] = some (.lst xs) := rfl
theorem told_shut {Fr : Nat} : Told h (.lst [.str "shut", .ftup (nds o)]) (shutG o) Fr := by
  intro m v u f hf
  unfold shutG lnm
  cases f with
  | true =>
    by_cases hv : v ∈ o
    · simp [C__law_variable, Kd.d, in_nds, hv, idx_nds]
    · simp [C__law_variable, Kd.d, in_nds, hv]
  | false =>
    by_cases hu : v < u
    · have e : ¬ u ≤ v := by omega
      simp [C__law_variable, Kd.d, hu, e]
    · have e : u ≤ v := by omega
      simp [C__law_variable, Kd.d, hu, e]
/-! _law_turned -/
variable {t : D} {g : Leaf} {Fr m u v : Nat} {r0 r3 r4 r5 r6 r7 : Option D}
abbrev TT (m : Nat) (t : D) (g : Leaf) (u : Nat) (h : Hh) (x y : D) : Prop := C m n__law_turned [x, .int u, t] h = .ok y h
theorem tn_0 {xs ys : List D} (hb : A2 (TT m t g u h) xs ys) :
    A2 (fun x y => lcTurn (.v 4) (evE (F m) G c__law_turned_0) (evE (F m) G x__law_turned_0) [r0, some (.int u), some t, r3, r4, r5, r6, r7] x h = .ok (some y) h) xs ys := hb.imp fun x y p => by simp [p]
theorem tn_1 : ∀ {ks : Ks}, A2 (TT m t g u h) ks.ds (ks.tr g u).ds →
    A2 (fun x y => lcTurn (.tu [4, 5]) (evE (F m) G c__law_turned_1) (evE (F m) G x__law_turned_1) [r0, some (.int u), some t, r3, r4, r5, r6, r7] x h = .ok (some y) h) ks.fs (ks.tr g u).fs
  | .nil, _ => .nil
  | .cons b k r, .cons p q => .cons (by simp [p]) (tn_1 q)
theorem tn_2 {u' : Int} : ∀ {ks : Ks}, A2 (TT m t g v h) ks.ds (ks.tr g v).ds →
    A2 (fun x y => lcTurn (.tu [7, 4]) (evE (F m) G c__law_turned_2) (evE (F m) G x__law_turned_2) [r0, some (.int u'), some t, r3, r4, r5, some (.int v), r7] x h = .ok (some y) h) ks.gs (ks.tr g v).gs
  | .nil, _ => .nil
  | .cons b k r, .cons p q => .cons (by simp [p]) (tn_2 q)
theorem tn_3 {xs ys : List D} {u' : Int} (hb : A2 (TT m t g v h) xs ys) :
    A2 (fun x y => lcTurn (.v 4) (evE (F m) G c__law_turned_3) (evE (F m) G x__law_turned_3) [r0, some (.int u'), some t, r3, r4, r5, some (.int v), r7] x h = .ok (some y) h) xs ys := hb.imp fun x y p => by simp [p]
theorem tn_4 {xs ys : List D} {u' : Int} (hb : A2 (TT m t g v h) xs ys) :
    A2 (fun x y => lcTurn (.v 4) (evE (F m) G c__law_turned_4) (evE (F m) G x__law_turned_4) [r0, some (.int u'), some t, r3, r4, r5, some (.int v), r7] x h = .ok (some y) h) xs ys := hb.imp fun x y p => by simp [p]
mutual
theorem turned_ok (ht : Told h t g Fr) : ∀ (d : Kd) (u u' n : Nat), d.sm → d.wk Fr u' → d.dep ≤ n → C (n + 2) n__law_turned [d.d, .int u, t] h = .ok (d.tr g u).d h
  | .int, u, u', n, _, _, _ => by simp -implicitDefEqProofs [C__law_turned, Kd.d, Kd.tr]
  | .free v, u, u', n, _, hw, _ => by
    have := ht n v u true fun _ => hw
    simp only [lnm, if_true] at this
    simp -implicitDefEqProofs [C__law_turned, Kd.d, Kd.tr, this]
  | .var v, u, u', n, _, hw, _ => by
    have := ht n v u false fun q => by cases q
    simp only [lnm, Bool.false_eq_true, if_false] at this
    simp -implicitDefEqProofs [C__law_turned, Kd.d, Kd.tr, this]
  | .un w d, u, u', n + 1, hs, hw, hd => by
    have ih := turned_ok ht d (u + w.bn) (u' + w.bn) n hs hw (by simp [Kd.dep] at hd; omega)
    cases w <;> simp only [Un.bn, Int.natCast_add, Int.natCast_one, Nat.add_zero] at ih <;> simp -implicitDefEqProofs [C__law_turned, Kd.d, Kd.tr, ih]
  | .mn w ks, u, u', n + 1, hs, hw, hd => by
    have ih := turneds_ok ht ks (u + w.bn) (u' + w.bn) n hs.2 hw (by simp [Kd.dep] at hd; omega)
    have hz : ks.len ≤ 16777216 := by have := hs.1; omega
    cases w with
    | row => simp only [Mn.bn, Nat.add_zero] at ih; simp -implicitDefEqProofs [C__law_turned, Kd.d, Kd.tr, hz, lcA (tn_0 ih)]
    | one => simp only [Mn.bn, Nat.add_zero] at ih; simp -implicitDefEqProofs [C__law_turned, Kd.d, Kd.tr, hz, lcA (tn_0 ih)]
    | room => simp only [Mn.bn, Nat.add_zero] at ih; simp -implicitDefEqProofs [C__law_turned, Kd.d, Kd.tr, hz, lcA (tn_1 ih)]
    | not b =>
      have e := lcA (acc := []) (tn_3 (r0 := some (Kd.mn (.not b) ks).d) (u' := u) (r3 := some (.str "not")) (r4 := none) (r5 := none) (r7 := none) ih)
      simp only [Mn.bn, Int.natCast_add] at e
      simp only [Kd.d] at e
      simp -implicitDefEqProofs [C__law_turned, Kd.d, Kd.tr, hz, e, lcLoop]
    | code b =>
      have e := lcA (acc := []) (tn_2 (r0 := some (Kd.mn (.code b) ks).d) (u' := u) (r3 := some (.str "code")) (r4 := none) (r5 := none) (r7 := none) ih)
      simp only [Mn.bn, Int.natCast_add] at e
      simp only [Kd.d] at e
      simp -implicitDefEqProofs [C__law_turned, Kd.d, Kd.tr, hz, e]
  | .to b ks l, u, u', n + 1, hs, hw, hd => by
    have ih := turneds_ok ht ks (u + b) (u' + b) n hs.2.1 hw.1 (by simp [Kd.dep] at hd; omega)
    have il := turned_ok ht l (u + b) (u' + b) n hs.2.2 hw.2 (by simp [Kd.dep] at hd; omega)
    have hz : ks.len ≤ 16777216 := by have := hs.1; omega
    have e := lcA (acc := []) (tn_3 (r0 := some (Kd.to b ks l).d) (u' := u) (r3 := some (.str "to")) (r4 := none) (r5 := none) (r7 := none) ih)
    have e2 := lcA (acc := []) (tn_4 (r0 := some (Kd.to b ks l).d) (u' := u) (r3 := some (.str "to")) (r4 := none) (r5 := none) (r7 := none) (A2.cons (P := TT (n + 2) t g (u + b) h) il .nil))
    simp only [Int.natCast_add, Kd.d] at e e2
    simp -implicitDefEqProofs [C__law_turned, Kd.d, Kd.tr, hz, e, e2]
  | .un _ _, _, _, 0, _, _, hd => by simp [Kd.dep] at hd
  | .mn _ _, _, _, 0, _, _, hd => by simp [Kd.dep] at hd
  | .to _ _ _, _, _, 0, _, _, hd => by simp [Kd.dep] at hd
theorem turneds_ok (ht : Told h t g Fr) : ∀ (ks : Ks) (u u' n : Nat), ks.sm → ks.wk Fr u' → ks.dep ≤ n → A2 (TT (n + 2) t g u h) ks.ds (ks.tr g u).ds
  | .nil, u, u', n, _, _, _ => .nil
  | .cons b k r, u, u', n, hs, hw, hd => .cons (turned_ok ht k u u' n hs.1 hw.1 (by simp [Ks.dep] at hd; omega)) (turneds_ok ht r u u' n hs.2 hw.2 (by simp [Ks.dep] at hd; omega))
end
end
end K70
end

section
set_option maxRecDepth 100000
namespace K70
open PySem PV Kn
theorem lcM {turn : D → Hh → R (Option D)} {h : Hh} (g : D → D) {xs : List D} {acc : List D} (p : ∀ x ∈ xs, turn x h = .ok (some (g x)) h) : lcLoop (fun _ => true) turn xs acc h = .ok (.lst (acc ++ xs.map g)) h := by
  rw [lcF (fun x => some (g x)) p]
  simp
theorem bls_map (p : D → Bool) : ∀ xs : List D, D.bls (xs.map fun x => .bl (p x)) = some (xs.map p)
  | [] => rfl
  | x :: xs => by show (D.bls (xs.map fun x => .bl (p x))).map _ = _; rw [bls_map p xs]; rfl
theorem all_map {h : Hh} (p : D → Bool) (xs : List D) : opBf .all h [.lst (xs.map fun x => .bl (p x))] = some (.bl (xs.all p)) := by
  show ((D.bls (xs.map fun x => .bl (p x))).map fun bs => D.bl (bs.all id)) = _
  rw [bls_map]
  simp
section
variable {h : Hh} {k : Nat}
theorem ne_nil {xs : List D} (hx : P64 (.tup xs)) : opCmp .ne h (.tup xs) (.tup []) = some (!xs.isEmpty) := by
  show Option.map _ (if (D.tup xs).shp && (D.tup []).shp then some ((D.tup xs).eqv (.tup [])) else none) = _
  rw [hx.shp, shp_strs0]
  cases xs <;> rfl
theorem eq_nil {xs : List D} (hx : P64 (.tup xs)) : opCmp .eq h (.tup xs) (.tup []) = some (xs.isEmpty) := by
  show (if (D.tup xs).shp && (D.tup []).shp then some ((D.tup xs).eqv (.tup [])) else none) = _
  rw [hx.shp, shp_strs0]
  cases xs <;> rfl
theorem is_integer_ok (x : D) (hx : x.isF = false) : C (k + 1) n_is_integer [x] h = .ok (.bl (match x with | .int _ => true | _ => false)) h := by
  cases x <;> simp [C_is_integer, opIsi, D.isF] at hx ⊢
theorem is_tuple_of_ok (n : Int) (x : D) (hx : x.isF = false) : C (k + 1) n_is_tuple_of [.int n, x] h = .ok (.bl (match x with | .tup xs => (xs.length : Int) == n | _ => false)) h := by
  cases x <;> simp [C_is_tuple_of, opIsi, D.isF] at hx ⊢
def neTup : D → Bool
  | .tup xs => !xs.isEmpty
  | _ => false
def hdStr : D → Bool
  | .tup (.str _ :: _) => true
  | _ => false
theorem isHd_eq (x : D) : isHd x = (neTup x && hdStr x) := by
  unfold isHd neTup hdStr
  split
  · rfl
  · split <;> simp_all
theorem is_kinds_tup {xs : List D} (hx : ∀ y ∈ xs, P64 y) (hl : xs.length ≤ 1000000) : C (k + 1) n_is_kinds [.tup xs] h = .ok (.bl (isHds (.tup xs))) h := by
    have hz : xs.length ≤ 16777216 := by omega
    have l1 : ∀ {r : Option D}, lcLoop (fun _ => true) (lcTurn (.v 1) (evE (F k) G c_is_kinds_0) (evE (F k) G x_is_kinds_0) [r, none]) xs [] h = .ok (.lst (xs.map fun x => .bl (neTup x))) h := by
      intro r
      refine lcM (acc := []) (fun x => .bl (neTup x)) fun y hy => ?_
      have py := hx y hy
      cases y with
      | tup ys => simp [opIsi, D.isF, ne_nil py, neTup]
      | _ => first | (simp [opIsi, D.isF, neTup]; done) | cases py.1
    by_cases ha : xs.all neTup = true
    · have l2 : ∀ {r : Option D}, lcLoop (fun _ => true) (lcTurn (.v 1) (evE (F k) G c_is_kinds_1) (evE (F k) G x_is_kinds_1) [r, none]) xs [] h = .ok (.lst (xs.map fun x => .bl (hdStr x))) h := by
        intro r
        refine lcM (acc := []) (fun x => .bl (hdStr x)) fun y hy => ?_
        have py := hx y hy
        have ny := List.all_eq_true.mp ha y hy
        cases y with
        | tup ys =>
          cases ys with
          | nil => cases ny
          | cons a r =>
            have pa := py.sub List.mem_cons_self
            cases a <;> first | (simp [opIsi, D.isF, hdStr]; done) | cases pa.1
        | _ => cases ny
      have e : xs.all isHd = xs.all hdStr := by
        have : ∀ ys : List D, ys.all neTup = true → ys.all isHd = ys.all hdStr := by
          intro ys
          induction ys with
          | nil => intro _; rfl
          | cons a r ih =>
            intro hy
            simp only [List.all_cons, Bool.and_eq_true] at hy ⊢
            rw [ih hy.2, isHd_eq, hy.1, Bool.true_and]
        exact this xs ha
      simp [C_is_kinds, opIsi, D.isF, hz, l1, l2, all_map, ha, isHds, e]
    · have e : xs.all isHd = false := by
        cases q : xs.all isHd with
        | false => rfl
        | true =>
          exfalso; apply ha
          refine List.all_eq_true.mpr fun y hy => ?_
          have := List.all_eq_true.mp q y hy
          rw [isHd_eq] at this
          simp only [Bool.and_eq_true] at this
          exact this.1
      have ha : xs.all neTup = false := by simpa using ha
      simp [C_is_kinds, opIsi, D.isF, hz, l1, all_map, ha, isHds, e]
theorem is_kinds_ok (x : D) (hx : P64 x) : C (k + 1) n_is_kinds [x] h = .ok (.bl (isHds x)) h := by
  cases x with
  | tup xs => exact is_kinds_tup (fun y hy => hx.sub hy) hx.len
  | _ => first | (simp [C_is_kinds, opIsi, D.isF, isHds]; done) | cases hx.1
theorem is_pairs_ok (x : D) (hx : P64 x) : C (k + 2) n_is_pairs [x] h = .ok (.bl (isPrs x)) h := by
  cases x with
  | tup xs =>
    have hz : xs.length ≤ 16777216 := Nat.le_trans hx.len (by omega)
    have l1 : ∀ {r : Option D}, lcLoop (fun _ => true) (lcTurn (.v 1) (evE (F (k + 1)) G c_is_pairs_0) (evE (F (k + 1)) G x_is_pairs_0) [r, none]) xs [] h = .ok (.lst (xs.map fun x => .bl (isPr x))) h := by
      intro r
      refine lcM (acc := []) (fun x => .bl (isPr x)) fun y hy => ?_
      have py := hx.sub hy
      have e : C (k + 1) n_is_tuple_of [.int 2, y] h = .ok (.bl (isPr y)) h := by
        have f : y.isF = false := by cases y <;> first | rfl | cases py.1
        rw [is_tuple_of_ok 2 y f]
        congr 2
        cases y with
        | tup ys =>
          rcases ys with _ | ⟨a, _ | ⟨b, _ | ⟨c, r⟩⟩⟩ <;> simp [isPr] <;> omega
        | _ => rfl
      simp [e]
    simp [C_is_pairs, opIsi, D.isF, hz, l1, all_map, isPrs]
  | _ => first | (simp [C_is_pairs, opIsi, D.isF, isPrs]; done) | cases hx.1
end
end K70
end

section
set_option maxRecDepth 100000
namespace K70
open PySem PV Kn
theorem rise_range : ∀ xs : List D, (List.range (xs.length - 1)).all (fun k => ltD (xs.getD k .non) (xs.getD (k + 1) .non)) = rise xs
  | [] => rfl
  | [x] => rfl
  | x :: y :: r => by
    have ih := rise_range (y :: r)
    show (List.range (r.length + 1)).all _ = (ltD x y && rise (y :: r))
    rw [List.range_succ_eq_map, List.all_cons, List.all_map, ← ih]
    rfl
def riseAt (xs : List D) : D → Bool
  | .int i => ltD (xs.getD i.toNat .non) (xs.getD (i.toNat + 1) .non)
  | _ => false
theorem h62 : (2 : Int) ^ 62 = 4611686018427387904 := by decide +kernel
theorem rng_ok {n : Int} (h0 : -1 ≤ n) (hn : n ≤ 1000000000) : rngOk 0 n = true := by
  unfold rngOk
  rw [h62]
  (simp only [Bool.and_eq_true, decide_eq_true_eq])
  omega
theorem rngD_len (n : Int) : (rngD 0 n).length = n.toNat := by simp [rngD]
section
variable {h : Hh} {k : Nat}
theorem is_rising_ok {xs : List D} (hp : ∀ x ∈ xs, P64 x) (hz : xs.length ≤ 1000000) : C (k + 2) n_is_rising [.lst xs] h = .ok (.bl (rising xs)) h := by
  have hz' : xs.length ≤ 16777216 := by omega
  have l1 : ∀ {r r2 : Option D}, lcLoop (fun _ => true) (lcTurn (.v 1) (evE (F (k + 1)) G c_is_rising_0) (evE (F (k + 1)) G x_is_rising_0) [r, none, r2]) xs [] h = .ok (.lst (xs.map fun x => .bl (isNt x))) h := by
    intro r r2
    refine lcM (acc := []) (fun x => .bl (isNt x)) fun y hy => ?_
    have py := hp y hy
    have f : y.isF = false := by cases y <;> first | rfl | cases py.1
    cases y <;> simp [is_integer_ok _ f, isNt]
  by_cases ha : xs.all isNt = true
  · have hr : rngOk 0 ((xs.length : Int) - 1) = true := rng_ok (by omega) (by omega)
    have hz2 : xs.length ≤ 16777217 := by omega
    have hl : ((xs.length : Int) - 1).toNat ≤ 16777216 := by omega
    have l2 : ∀ {r : Option D}, lcLoop (fun _ => true) (lcTurn (.v 2) (evE (F (k + 1)) G c_is_rising_1) (evE (F (k + 1)) G x_is_rising_1) [some (.lst xs), r, none]) (rngD 0 ((xs.length : Int) - 1)) [] h = .ok (.lst ((rngD 0 ((xs.length : Int) - 1)).map fun x => .bl (riseAt xs x))) h := by
      intro r
      refine lcM (acc := []) (fun x => .bl (riseAt xs x)) fun y hy => ?_
      unfold rngD at hy
      obtain ⟨i, hi, rfl⟩ := List.mem_map.mp hy
      have hi := List.mem_range.mp hi
      have h1 : i < xs.length := by omega
      have h2 : i + 1 < xs.length := by omega
      have e1 : L2.atI xs (i : Int) = some xs[i] := L2.atI_nat (List.getElem?_eq_getElem h1)
      have e2 : L2.atI xs ((i : Int) + 1) = some xs[i + 1] := by
        have := L2.atI_nat (j := i + 1) (List.getElem?_eq_getElem h2)
        simpa using this
      have a1 := List.all_eq_true.mp ha _ (List.getElem_mem h1)
      have a2 := List.all_eq_true.mp ha _ (List.getElem_mem h2)
      cases q1 : xs[i] <;> rw [q1] at a1 <;> first | cases a1 | skip
      cases q2 : xs[i + 1] <;> rw [q2] at a2 <;> first | cases a2 | skip
      simp [e1, e2, q1, q2, h1, h2, ltD, riseAt]
    have e : (rngD 0 ((xs.length : Int) - 1)).all (riseAt xs) = rise xs := by
      rw [← rise_range xs]
      unfold rngD
      rw [List.all_map]
      have : ((xs.length : Int) - 1 - 0).toNat = xs.length - 1 := by omega
      rw [this]
      congr 1
      funext i
      simp [riseAt]
    have al := all_map (h := h) (riseAt xs) (rngD 0 ((xs.length : Int) - 1))
    rw [e] at al
    simp [C_is_rising, hz', l1, l2, all_map isNt, ha, hr, rngD_len, hl, hz2, al, rising]
  · have ha : xs.all isNt = false := by simpa using ha
    simp [C_is_rising, hz', l1, all_map isNt, ha, rising]
end
end K70
end

section
set_option maxRecDepth 100000
namespace K70
open PySem PV Kn
section
variable {h : Hh} {k : Nat}
theorem form_int {rest : List D} (hx : P64 (.tup (.str "int" :: rest))) : C (k + 3) n_has_form [.tup (.str "int" :: rest)] h = .ok (.bl rest.isEmpty) h := by
  simp [C_has_form, eq_nil hx.tl]
theorem form_var {w : Str} {rest : List D} (hx : P64 (.tup (.str w :: rest))) (hw : w = "free" ∨ w = "var") : C (k + 3) n_has_form [.tup (.str w :: rest)] h = .ok (.bl (one1 isNt rest)) h := by
  rcases rest with _ | ⟨x, _ | ⟨y, r⟩⟩
  · rcases hw with rfl | rfl <;> simp [C_has_form, one1]
  · have px := hx.tl.sub List.mem_cons_self
    rcases hw with rfl | rfl <;> cases x <;> simp [C_has_form, is_integer_ok _ px.nf, isNt, one1]
  · have e : ((r.length : Int) + 1 + 1 == 1) = false := beq_eq_false_iff_ne.mpr (by omega)
    rcases hw with rfl | rfl <;> simp [C_has_form, e, one1]
theorem form_un {w : Str} {rest : List D} (hx : P64 (.tup (.str w :: rest))) (hw : w = "cell" ∨ w = "some" ∨ w = "rec") : C (k + 3) n_has_form [.tup (.str w :: rest)] h = .ok (.bl (one1 (fun x => isHd x && (!decide (w = "rec") || !hdV x)) rest)) h := by
  rcases rest with _ | ⟨x, _ | ⟨y, r⟩⟩
  · rcases hw with rfl | rfl | rfl <;> simp [C_has_form, one1]
  · have e := is_kinds_ok (k := k + 1) (h := h) _ hx.tl
    have e2 : isHds (.tup [x]) = isHd x := by simp [isHds]
    rw [e2] at e
    cases q : isHd x with
    | false => rw [q] at e; rcases hw with rfl | rfl | rfl <;> simp [C_has_form, e, one1, q]
    | true =>
      rw [q] at e
      unfold isHd at q
      split at q
      · rename_i w' r
        have hs : PyData.strOk w' = true := ((hx.tl.sub List.mem_cons_self).sub List.mem_cons_self).1
        rcases hw with rfl | rfl | rfl <;> simp [C_has_form, e, one1, isHd, hdV, hs, eq_comm]
      · cases q
  · have e : ((r.length : Int) + 1 + 1 == 1) = false := beq_eq_false_iff_ne.mpr (by omega)
    rcases hw with rfl | rfl | rfl <;> simp [C_has_form, e, one1]
theorem form_row {w : Str} {rest : List D} (hx : P64 (.tup (.str w :: rest))) (hw : w = "row" ∨ w = "one") : C (k + 3) n_has_form [.tup (.str w :: rest)] h = .ok (.bl (one1 (fun x => isHds x && (decide (w = "row") || !(items x).isEmpty)) rest)) h := by
  rcases rest with _ | ⟨x, _ | ⟨y, r⟩⟩
  · rcases hw with rfl | rfl <;> simp [C_has_form, one1]
  · have px := hx.tl.sub List.mem_cons_self
    have e := is_kinds_ok (k := k + 1) (h := h) _ px
    cases q : isHds x with
    | false => rw [q] at e; rcases hw with rfl | rfl <;> simp [C_has_form, e, one1, q]
    | true =>
      rw [q] at e
      cases x with
      | tup xs => rcases hw with rfl | rfl <;> simp [C_has_form, e, one1, q, ne_nil px, items]
      | _ => cases q
  · have e : ((r.length : Int) + 1 + 1 == 1) = false := beq_eq_false_iff_ne.mpr (by omega)
    rcases hw with rfl | rfl <;> simp [C_has_form, e, one1]
theorem form_room {rest : List D} (hx : P64 (.tup (.str "room" :: rest))) : C (k + 3) n_has_form [.tup (.str "room" :: rest)] h = .ok (.bl (one1 (fun x => isPrs x && (items x).all fun p => isBl (snd p)) rest)) h := by
  rcases rest with _ | ⟨x, _ | ⟨y, r⟩⟩
  · simp [C_has_form, one1]
  · have px := hx.tl.sub List.mem_cons_self
    have e := is_pairs_ok (k := k) (h := h) _ px
    cases q : isPrs x with
    | false => rw [q] at e; simp [C_has_form, e, one1, q]
    | true =>
      rw [q] at e
      cases x with
      | tup xs =>
        have hz : xs.length ≤ 16777216 := Nat.le_trans px.len (by omega)
        have l1 : ∀ {r0 r1 r2 : Option D}, lcLoop (fun _ => true) (lcTurn (.v 3) (evE (F (k + 2)) G c_has_form_0) (evE (F (k + 2)) G x_has_form_0) [r0, r1, r2, none]) xs [] h = .ok (.lst (xs.map fun p => .bl (isBl (snd p)))) h := by
          intro r0 r1 r2
          refine lcM (acc := []) (fun p => .bl (isBl (snd p))) fun y hy => ?_
          have py := List.all_eq_true.mp q y hy
          have hy2 := px.sub hy
          unfold isPr at py
          split at py
          · rename_i a b
            have pb := hy2.sub (x := b) (by simp)
            cases b <;> first | (simp [pb.nf, snd, isBl, opIsi]; done) | cases pb.1
          · cases py
        simp [C_has_form, e, one1, q, hz, l1, all_map (fun p => isBl (snd p)), items]
      | _ => cases q
  · have e : ((r.length : Int) + 1 + 1 == 1) = false := beq_eq_false_iff_ne.mpr (by omega)
    simp [C_has_form, e, one1]
theorem g0 : (G[0]? : Option D) = some (.int 10000) := rfl
theorem form_not {rest : List D} (hx : P64 (.tup (.str "not" :: rest))) : C (k + 3) n_has_form [.tup (.str "not" :: rest)] h = .ok (.bl (two2 (fun n x => inB n && isHds x) rest)) h := by
  rcases rest with _ | ⟨x, _ | ⟨y, _ | ⟨z, r⟩⟩⟩
  · simp [C_has_form, two2]
  · simp [C_has_form, two2]
  · have px := hx.tl.sub List.mem_cons_self
    have py := hx.tl.tl.sub List.mem_cons_self
    have e := is_kinds_ok (k := k + 1) (h := h) _ py
    have e0 := is_kinds_ok (k := k + 1) (h := h) _ hx.tl.tl.tl
    cases x with
    | int n =>
      by_cases h0 : 0 ≤ n
      · by_cases h1 : n ≤ 10000
        · rw [show isHds (.tup []) = true from rfl] at e0
          cases q : isHds y <;> rw [q] at e <;> simp [C_has_form, is_integer_ok _ px.nf, h0, h1, e, e0, two2, inB, bnd, q]
        · simp [C_has_form, is_integer_ok _ px.nf, h0, h1, two2, inB, bnd]
      · simp [C_has_form, is_integer_ok _ px.nf, h0, two2, inB, bnd]
    | _ => simp [C_has_form, is_integer_ok _ px.nf, two2, inB]
  · have e : ((r.length : Int) + 1 + 1 + 1 == 2) = false := beq_eq_false_iff_ne.mpr (by omega)
    simp [C_has_form, e, two2]
theorem form_to {rest : List D} (hx : P64 (.tup (.str "to" :: rest))) : C (k + 3) n_has_form [.tup (.str "to" :: rest)] h = .ok (.bl (three3 (fun n x y => inB n && (isHds x && isHd y)) rest)) h := by
  rcases rest with _ | ⟨x, _ | ⟨y, _ | ⟨z, _ | ⟨t, r⟩⟩⟩⟩
  · simp [C_has_form, three3]
  · simp [C_has_form, three3]
  · simp [C_has_form, three3]
  · have px := hx.tl.sub List.mem_cons_self
    have py := hx.tl.tl.sub List.mem_cons_self
    have e := is_kinds_ok (k := k + 1) (h := h) _ py
    have e0 := is_kinds_ok (k := k + 1) (h := h) _ hx.tl.tl.tl
    rw [show isHds (.tup [z]) = isHd z from by simp [isHds]] at e0
    cases x with
    | int n =>
      by_cases h0 : 0 ≤ n
      · by_cases h1 : n ≤ 10000
        · cases q : isHds y <;> cases q2 : isHd z <;> rw [q] at e <;> rw [q2] at e0 <;> simp [C_has_form, is_integer_ok _ px.nf, h0, h1, e, e0, three3, inB, bnd, q, q2]
        · simp [C_has_form, is_integer_ok _ px.nf, h0, h1, three3, inB, bnd]
      · simp [C_has_form, is_integer_ok _ px.nf, h0, three3, inB, bnd]
    | _ => simp [C_has_form, is_integer_ok _ px.nf, three3, inB]
  · have e : ((r.length : Int) + 1 + 1 + 1 + 1 == 3) = false := beq_eq_false_iff_ne.mpr (by omega)
    simp [C_has_form, e, three3]
theorem form_code {rest : List D} (hx : P64 (.tup (.str "code" :: rest))) : C (k + 3) n_has_form [.tup (.str "code" :: rest)] h = .ok (.bl (two2 (fun n x => inB n && (isPrs x && rising ((items x).map fst))) rest)) h := by
  rcases rest with _ | ⟨x, _ | ⟨y, _ | ⟨z, r⟩⟩⟩
  · simp [C_has_form, two2]
  · simp [C_has_form, two2]
  · have px := hx.tl.sub List.mem_cons_self
    have py := hx.tl.tl.sub List.mem_cons_self
    have e := is_pairs_ok (k := k) (h := h) _ py
    cases x with
    | int n =>
      by_cases h0 : 0 ≤ n
      · by_cases h1 : n ≤ 10000
        · cases q : isPrs y with
          | false => rw [q] at e; simp [C_has_form, is_integer_ok _ px.nf, h0, h1, e, two2, inB, bnd, q]
          | true =>
            rw [q] at e
            cases y with
            | tup xs =>
              have hz : xs.length ≤ 16777216 := Nat.le_trans py.len (by omega)
              have pr : ∀ y ∈ xs, ∃ a b, y = .tup [a, b] ∧ P64 a := fun y hy => by
                have q1 := List.all_eq_true.mp q y hy
                unfold isPr at q1
                split at q1
                · exact ⟨_, _, rfl, (py.sub hy).sub List.mem_cons_self⟩
                · cases q1
              have l1 : ∀ {r0 r1 r2 : Option D}, lcLoop (fun _ => true) (lcTurn (.v 3) (evE (F (k + 2)) G c_has_form_1) (evE (F (k + 2)) G x_has_form_1) [r0, r1, r2, none]) xs [] h = .ok (.lst (xs.map fst)) h := by
                intro r0 r1 r2
                refine lcM (acc := []) fst fun y hy => ?_
                obtain ⟨a, b, rfl, _⟩ := pr y hy
                simp [fst]
              have hr := is_rising_ok (h := h) (k := k) (xs := xs.map fst) (fun z hz => by
                obtain ⟨y, hy, rfl⟩ := List.mem_map.mp hz
                obtain ⟨a, b, rfl, pa⟩ := pr y hy
                exact pa) (by rw [List.length_map]; exact py.len)
              cases q2 : rising (xs.map fst) <;> rw [q2] at hr <;> simp [C_has_form, is_integer_ok _ px.nf, h0, h1, e, two2, inB, bnd, q, hz, l1, items, hr, q2]
            | _ => cases q
        · simp [C_has_form, is_integer_ok _ px.nf, h0, h1, two2, inB, bnd]
      · simp [C_has_form, is_integer_ok _ px.nf, h0, two2, inB, bnd]
    | _ => simp [C_has_form, is_integer_ok _ px.nf, two2, inB]
  · have e : ((r.length : Int) + 1 + 1 + 1 == 2) = false := beq_eq_false_iff_ne.mpr (by omega)
    simp [C_has_form, e, two2]
theorem has_form_ok {w : Str} {rest : List D} (hx : P64 (.tup (.str w :: rest))) : C (k + 3) n_has_form [.tup (.str w :: rest)] h = .ok (.bl (form w rest)) h := by
  unfold form
  by_cases h1 : w = "int"
  · subst h1; rw [if_pos rfl]; exact form_int hx
  rw [if_neg h1]
  by_cases h2 : w = "free" ∨ w = "var"
  · rw [if_pos h2]; exact form_var hx h2
  rw [if_neg h2]
  by_cases h3 : w = "cell" ∨ w = "some" ∨ w = "rec"
  · rw [if_pos h3]; exact form_un hx h3
  rw [if_neg h3]
  by_cases h4 : w = "row" ∨ w = "one"
  · rw [if_pos h4]; exact form_row hx h4
  rw [if_neg h4]
  by_cases h5 : w = "room"
  · subst h5; rw [if_pos rfl]; exact form_room hx
  rw [if_neg h5]
  by_cases h6 : w = "not"
  · subst h6; rw [if_pos rfl]; exact form_not hx
  rw [if_neg h6]
  by_cases h7 : w = "to"
  · subst h7; rw [if_pos rfl]; exact form_to hx
  rw [if_neg h7]
  by_cases h8 : w = "code"
  · subst h8; rw [if_pos rfl]; exact form_code hx
  rw [if_neg h8]
  simp only [not_or] at h2 h3 h4
  have hs : PyData.strOk w = true := (hx.sub List.mem_cons_self).1
  simp [C_has_form, h1, Ne.symm h2.1, Ne.symm h2.2, Ne.symm h3.1, Ne.symm h3.2.1, Ne.symm h3.2.2, Ne.symm h4.1, Ne.symm h4.2, h5, Ne.symm h6, Ne.symm h7, Ne.symm h8, hs]
end
end K70
end

section
set_option maxRecDepth 100000
namespace K70
open PySem PV Kn
section
variable {h : Hh} {k : Nat}
theorem insides_fm {w : Str} {rest : List D} (f : Fm w rest) (hp : ∀ y ∈ rest, P64 y) : C (k + 1) n_insides [.tup (.str w :: rest)] h = .ok (.tup (inn w rest)) h := by
  have hz : ∀ {xs : List D}, D.tup xs ∈ rest → xs.length ≤ 16777215 := fun hm => Nat.le_trans (hp _ hm).len (by omega)
  cases f with
  | room xs ha hb =>
    have z := hz (xs := xs) (by simp)
    have z' : xs.length ≤ 16777216 := by omega
    have l1 : ∀ {r0 r1 r2 r3 r4 : Option D}, lcLoop (fun _ => true) (lcTurn (.tu [2, 3]) (evE (F k) G c_insides_0) (evE (F k) G x_insides_0) [r0, r1, r2, r3, r4]) xs [] h = .ok (.lst (xs.map fst)) h := by
      intro r0 r1 r2 r3 r4
      refine lcM (acc := []) fst fun y hy => ?_
      obtain ⟨a, b, rfl⟩ := isPr_eq (List.all_eq_true.mp ha y hy)
      simp [fst]
    simp [C_insides, inn, items, z', l1]
  | code n xs _ _ ha hb =>
    have z := hz (xs := xs) (by simp)
    have z' : xs.length ≤ 16777216 := by omega
    have l1 : ∀ {r0 r1 r2 r3 r4 : Option D}, lcLoop (fun _ => true) (lcTurn (.tu [4, 2]) (evE (F k) G c_insides_1) (evE (F k) G x_insides_1) [r0, r1, r2, r3, r4]) xs [] h = .ok (.lst (xs.map snd)) h := by
      intro r0 r1 r2 r3 r4
      refine lcM (acc := []) snd fun y hy => ?_
      obtain ⟨a, b, rfl⟩ := isPr_eq (List.all_eq_true.mp ha y hy)
      simp [snd]
    simp [C_insides, inn, items, z', l1]
  | to n xs l _ _ _ _ =>
    have z := hz (xs := xs) (by simp)
    simp [C_insides, inn, items, z]
  | _ => simp [C_insides, inn, items]
theorem binds_fm {w : Str} {rest : List D} (f : Fm w rest) : C (k + 1) n_binds [.tup (.str w :: rest)] h = .ok (.int (bnn w rest)) h := by
  cases f <;> simp [C_binds, bnn, numD]
def wds (ws : List Str) : List D := ws.map D.str
theorem in_ws {ws : List Str} {w : Str} (hw : ∀ x ∈ ws, PyData.strOk x = true) (hs : PyData.strOk w = true) : opCmp .nin h (.str w) (.tup (wds ws ++ [.str "free", .str "var"])) = some (!(decide (w ∈ ws) || decide (w = "free") || decide (w = "var"))) := by
  rw [nin_eq, in_tup, shp_flats (by simp [wds, D.flat]; exact hw)]
  have e : (D.str w).shp = true := by simpa using hs
  rw [e]
  have : ((wds ws ++ [D.str "free", D.str "var"]).any fun y => y.eqv (.str w)) = (decide (w ∈ ws) || decide (w = "free") || decide (w = "var")) := by
    rw [List.any_append]
    have a : ((wds ws).any fun y => y.eqv (.str w)) = decide (w ∈ ws) := by
      unfold wds
      rw [List.any_map]
      induction ws with
      | nil => rfl
      | cons a r ih =>
        rw [List.any_cons, ih fun x hx => hw x (List.mem_cons_of_mem _ hx)]
        by_cases q : a = w
        · subst q; simp
        · have q' : ¬ w = a := fun e => q e.symm
          simp [q, q']
    rw [a]
    simp [eq_comm, Bool.or_assoc]
  rw [this]; rfl
theorem wds_len (ws : List Str) : (wds ws).length = ws.length := List.length_map ..
theorem isHd_inv {d : D} (h : isHd d = true) : ∃ w rest, d = .tup (.str w :: rest) := by
  unfold isHd at h
  split at h
  · exact ⟨_, _, rfl⟩
  · cases h
theorem isK_not {ws : List Str} {f u : Int} {n : Nat} {d : D} (h : isHd d = false) : isK ws f n u d = false := by
  cases n with
  | zero => rfl
  | succ n =>
    unfold isK
    split
    · cases ‹_ = Nat.zero›
    · cases h
    · rfl
theorem isk_step {ws : List Str} {f : Int} (hw : ∀ x ∈ ws, PyData.strOk x = true) (hl : ws.length ≤ 1000) {n m : Nat} {u : Int} {d : D} (hd : P64 d)
    (ih : ∀ w rest, d = .tup (.str w :: rest) → Fm w rest → ∀ x ∈ inn w rest, ∀ u' : Int, C (m + 3) n_is_kind_below [x, .int f, .int u', .tup (wds ws)] h = .ok (.bl (isK ws f n u' x)) h) :
    C (m + 4) n_is_kind_below [d, .int f, .int u, .tup (wds ws)] h = .ok (.bl (isK ws f (n + 1) u d)) h := by
  have e1 := is_kinds_tup (k := m + 2) (h := h) (xs := [d]) (fun y hy => by rw [List.mem_singleton.mp hy]; exact hd) (by simp)
  rw [show isHds (.tup [d]) = isHd d from by simp [isHds]] at e1
  cases q : isHd d with
  | false =>
    rw [q] at e1
    rw [isK_not q]
    simp [C_is_kind_below, e1]
  | true =>
    rw [q] at e1
    obtain ⟨w, rest, rfl⟩ := isHd_inv q
    have hs : PyData.strOk w = true := (hd.sub List.mem_cons_self).1
    have e2 := in_ws (h := h) hw hs
    have hz : ws.length + 2 ≤ 16777216 := by omega
    have e3 := has_form_ok (h := h) (k := m) hd
    unfold isK
    cases q2 : (decide (w ∈ ws) || decide (w = "free") || decide (w = "var")) with
    | false =>
      rw [q2] at e2
      simp [C_is_kind_below, e1, wds_len, hz, e2]
    | true =>
      rw [q2] at e2
      cases q3 : form w rest with
      | false =>
        rw [q3] at e3
        simp [C_is_kind_below, e1, wds_len, hz, e2, e3]
      | true =>
        rw [q3] at e3
        have fm := form_fm q3
        by_cases hf : w = "free"
        · subst hf
          cases fm with
          | free n hn => simp [C_is_kind_below, e1, wds_len, hz, e2, e3, numD]
        · by_cases hv : w = "var"
          · subst hv
            cases fm with
            | var n hn => simp [C_is_kind_below, e1, wds_len, hz, e2, e3, numD]
          · have e4 := insides_fm (k := m + 2) (h := h) fm fun y hy => hd.tl.sub hy
            have e5 := binds_fm (k := m + 2) (h := h) fm
            have l1 : ∀ {r : Option D}, lcLoop (fun _ => true) (lcTurn (.v 4) (evE (F (m + 3)) G c_is_kind_below_0) (evE (F (m + 3)) G x_is_kind_below_0) [some (.tup (.str w :: rest)), some (.int f), some (.int u), some (.tup (wds ws)), r]) (inn w rest) [] h = .ok (.lst ((inn w rest).map fun x => .bl (isK ws f n (u + bnn w rest) x))) h := by
              intro r
              refine lcM (acc := []) (fun x => .bl (isK ws f n (u + bnn w rest) x)) fun y hy => ?_
              simp [e5, ih w rest rfl fm y hy]
            have hi : (inn w rest).length ≤ 16777216 := by
              have hx : ∀ {xs : List D}, D.tup xs ∈ rest → xs.length ≤ 1000000 := fun hm => (hd.tl.sub hm).len
              cases fm with
              | row xs _ => simp [inn, items]; exact Nat.le_trans (hx (xs := xs) (by simp)) (by omega)
              | one xs _ _ => simp [inn, items]; exact Nat.le_trans (hx (xs := xs) (by simp)) (by omega)
              | room xs _ _ => simp [inn, items]; exact Nat.le_trans (hx (xs := xs) (by simp)) (by omega)
              | not n xs _ _ _ => simp [inn, items]; exact Nat.le_trans (hx (xs := xs) (by simp)) (by omega)
              | to n xs l _ _ _ _ => simp [inn, items]; exact Nat.le_trans (hx (xs := xs) (by simp)) (by omega)
              | code n xs _ _ _ _ => simp [inn, items]; exact Nat.le_trans (hx (xs := xs) (by simp)) (by omega)
              | _ => simp [inn]
            simp [C_is_kind_below, e1, wds_len, hz, e2, e3, Ne.symm hf, Ne.symm hv, hf, hv, hs, e4, hi, l1, all_map (fun x => isK ws f n (u + bnn w rest) x)]
theorem isk_ok {ws : List Str} {f : Int} (hw : ∀ x ∈ ws, PyData.strOk x = true) (hl : ws.length ≤ 1000) : ∀ (n N : Nat) (u : Int) (d : D), n ≤ 64 → n ≤ N → PN n d → C (N + 4) n_is_kind_below [d, .int f, .int u, .tup (wds ws)] h = .ok (.bl (isK ws f (n + 1) u d)) h
  | 0, N, u, d, hn, _, hd => isk_step hw hl (hd.p64 hn) fun w rest e _ => by subst e; have := hd.2; simp [D.dep] at this
  | n + 1, N + 1, u, d, hn, hN, hd => isk_step (m := N + 1) hw hl (hd.p64 hn) fun w rest e fm x hx u' => isk_ok hw hl n N u' x (by omega) (by omega) (inn_sub fm (by rw [← e]; exact hd) hx)
end
end K70
end

section
set_option maxRecDepth 100000
namespace K70
open PySem PV Kn
/-- a cup and what stood before it -/
def Cup (pre : Hh) (a b : Int) : Hh := pre ++ [.lst [.int a, .int b]]
structure CupOk (a b : Int) : Prop where
  a0 : 0 ≤ a
  b0 : 0 ≤ b
  b1 : b < 2147483648
theorem cup_at (pre : Hh) (a b : Int) : (Cup pre a b)[pre.length]? = some (.lst [.int a, .int b]) := by simp [Cup]
section
variable {pre : Hh} {a b : Int} {k : Nat}
theorem cup_0 : opIdx (Cup pre a b) (.ref pre.length) (.int 0) = some (.int a) := by simp only [opIdx, cup_at]; simp
theorem cup_1 : opIdx (Cup pre a b) (.ref pre.length) (.int 1) = some (.int b) := by simp only [opIdx, cup_at]; simp
theorem cup_set (pre : Hh) (o o' : O) : (pre ++ [o]).set pre.length o' = pre ++ [o'] := by simp
theorem sto_0 (x : Int) : stoOp (.ref pre.length) (.int 0) (.int x) (Cup pre a b) = some (Cup pre x b) := by
  simp only [stoOp, cup_at]
  have : L2.ixN [D.int a, D.int b].length 0 = some 0 := rfl
  rw [this]
  simp [Cup]
theorem sto_1 (x : Int) : stoOp (.ref pre.length) (.int 1) (.int x) (Cup pre a b) = some (Cup pre a x) := by
  simp only [stoOp, cup_at]
  have : L2.ixN [D.int a, D.int b].length 1 = some 1 := rfl
  rw [this]
  simp [Cup]
theorem h64 : (2 : Int) ^ 64 = 18446744073709551616 := by decide +kernel
theorem mulOk_l {i j : Int} (h0 : 0 ≤ i) (h1 : i < 18446744073709551616) : mulOk i j = true := by
  unfold mulOk
  rw [h64]
  have : decide (-18446744073709551616 < i ∧ i < 18446744073709551616) = true := decide_eq_true (by omega)
  rw [this]; simp
theorem bin_mul {h : Hh} {i j : Int} (m : mulOk i j = true) : opBin .mul h (.int i) (.int j) = some (.int (i * j)) := by
  show (if mulOk i j then some (D.int (i * j)) else none) = _
  rw [if_pos m]
theorem bin_mod {h : Hh} {i j : Int} (m : 0 < j) : opBin .mod h (.int i) (.int j) = some (.int (i % j)) := by
  show (if 0 < j then some (D.int (i % j)) else none) = _
  rw [if_pos m]
theorem bin_fdiv {h : Hh} {i j : Int} (m : 0 < j) (m2 : j < 1073741824) : opBin .fdiv h (.int i) (.int j) = some (.int (i / j)) := by
  show (if 0 < j ∧ j < 1073741824 then some (D.int (i / j)) else none) = _
  rw [if_pos ⟨m, m2⟩]
theorem sip_ok (ok : CupOk a b) {many : Int} (h0 : 0 < many) (h1 : many < 1073741824) :
    ∃ v a' b', C (k + 1) n__law_sip [.ref pre.length, .int many] (Cup pre a b) = .ok (.int v) (Cup pre a' b') ∧ 0 ≤ v ∧ v < many ∧ CupOk a' b' := by
  by_cases ha : 0 < a
  · refine ⟨a % many, a / many, b, ?_, Int.emod_nonneg _ (by omega), Int.emod_lt_of_pos _ h0, ⟨Int.ediv_nonneg ok.a0 (by omega), ok.b0, ok.b1⟩⟩
    simp [C__law_sip, cup_0, ha, bin_mod h0, bin_fdiv h0 h1, sto_0]
  · have m1 : mulOk b 69621 = true := mulOk_l ok.b0 (by have := ok.b1; omega)
    have c0 : 0 ≤ b * 69621 % 2147483647 := Int.emod_nonneg _ (by omega)
    have c1 : b * 69621 % 2147483647 < 2147483647 := Int.emod_lt_of_pos _ (by omega)
    have m2 : mulOk (b * 69621 % 2147483647) (b * 69621 % 2147483647) = true := mulOk_l c0 (by omega)
    refine ⟨(b * 69621 % 2147483647) * (b * 69621 % 2147483647) % 2147483629 / 32 % many, a, b * 69621 % 2147483647, ?_, Int.emod_nonneg _ (by omega), Int.emod_lt_of_pos _ h0, ⟨ok.a0, c0, by omega⟩⟩
    simp [C__law_sip, cup_0, cup_1, ha, bin_mul m1, bin_mul m2, bin_mod h0, bin_mod, bin_fdiv, sto_1]
end
end K70
end

section
set_option maxRecDepth 100000
namespace K70
open PySem PV Kn
/-- what the law's words are -/
structure Wds (ws : List Str) : Prop where
  ok : ∀ x ∈ ws, PyData.strOk x = true
  len : ws.length ≤ 20
  int : Str.ofString "int" ∈ ws
  cell : Str.ofString "cell" ∈ ws
def w2 (ws : List Str) : List Str := ws ++ ([Str.ofString "free", Str.ofString "var"] : List Str)
def twelve : List Str := ["int", "free", "var", "row", "one", "cell", "some", "rec", "not", "to", "room", "code"]
def kw (ws : List Str) : List Str := twelve.filter fun w => decide (w ∈ w2 ws)
def b_kt : Ss := match b__law_kind with
  | .cons _ (.cons _ t) => t
  | _ => .nil
theorem b_kt_eq : b__law_kind = .cons (.asgLc 5 e__law_kind_0) (.cons (.asg 6 (.ite (.cmp .gt (.var 1) (.con (.int 0))) (.idx (.var 5) (.call 19 (.cons (.var 0) (.cons (.bf .len (.cons (.var 5) .nil)) .nil)))) (.idx (.lst (.cons (.con (.str "int")) (.cons (.con (.str "free")) (.cons (.con (.str "var")) .nil)))) (.call 19 (.cons (.var 0) (.cons (.con (.int 3)) .nil)))))) b_kt) := rfl
section
variable {pre : Hh} {a b : Int} {k : Nat} {ws : List Str}
theorem in_w2 {h : Hh} {w : Str} (hw : Wds ws) (hs : PyData.strOk w = true) : opCmp .inn h (.str w) (.tup (wds (w2 ws))) = some (decide (w ∈ w2 ws)) := by
  have f : (wds (w2 ws)).all D.flat = true := by simp [wds, w2, D.flat]; exact hw.ok
  rw [in_tup, shp_flats f]
  have e : (D.str w).shp = true := by simpa using hs
  rw [e]
  have : ((wds (w2 ws)).any fun y => y.eqv (.str w)) = decide (w ∈ w2 ws) := by
    unfold wds
    rw [List.any_map]
    generalize w2 ws = l
    induction l with
    | nil => rfl
    | cons a r ih =>
      rw [List.any_cons, ih]
      by_cases q : a = w
      · subst q; simp
      · have q' : ¬ w = a := fun e => q e.symm
        simp [q, q']
  rw [this]; rfl
theorem kw_loop {h : Hh} {r0 r1 r2 r3 r5 r7 r8 r9 r10 : Option D} (hw : Wds ws) : lcLoop (fun _ => true) (lcTurn (.v 6) (evE (F k) G c__law_kind_0) (evE (F k) G x__law_kind_0) [r0, r1, r2, r3, some (.tup (wds (w2 ws))), r5, none, r7, r8, r9, r10]) [.str "int", .str "free", .str "var", .str "row", .str "one", .str "cell", .str "some", .str "rec", .str "not", .str "to", .str "room", .str "code"] [] h = .ok (.lst ((kw ws).map D.str)) h := by
  show lcLoop _ _ (twelve.map D.str) [] h = _
  refine lcW (acc := []) (fun w => decide (w ∈ w2 ws)) fun w hm => ?_
  have hs : PyData.strOk w = true := by
    simp only [twelve, List.mem_cons, List.not_mem_nil, or_false] at hm
    rcases hm with rfl | rfl | rfl | rfl | rfl | rfl | rfl | rfl | rfl | rfl | rfl | rfl <;> simp
  by_cases q : w ∈ w2 ws
  · simp [in_w2 hw hs, q]
  · simp [in_w2 hw hs, q]
/-- the word that is drawn -/
def Word (ws : List Str) (deep : Nat) (w : Str) : Prop := (w = "int" ∨ w = "free" ∨ w = "var") ∨ (0 < deep ∧ w ∈ twelve ∧ w ∈ ws)
theorem kw_pos (hw : Wds ws) : 0 < (kw ws).length := by
  have : (Str.ofString "int") ∈ kw ws := List.mem_filter.mpr ⟨by simp [twelve], by simp [w2, hw.int]⟩
  exact List.length_pos_of_mem this
theorem kw_le : (kw ws).length ≤ 12 := List.length_filter_le _ _
theorem kw_mem {w : Str} (h : w ∈ kw ws) : w ∈ twelve ∧ (w ∈ ws ∨ w = "free" ∨ w = "var") := by
  obtain ⟨h1, h2⟩ := List.mem_filter.mp h
  refine ⟨h1, ?_⟩
  simpa [w2] using of_decide_eq_true h2
theorem kind_run (hw : Wds ws) (ok : CupOk a b) (deep : Nat) (u : Int) :
    ∃ (w : Str) (a' b' : Int), Word ws deep w ∧ CupOk a' b' ∧
      C (k + 2) n__law_kind [.ref pre.length, .int deep, .int 4, .int u, .tup (wds (w2 ws))] (Cup pre a b) =
        finR false (Cup pre a b).length (evSs (F (k + 1)) G b_kt [some (.ref pre.length), some (.int deep), some (.int 4), some (.int u), some (.tup (wds (w2 ws))), some (.lst ((kw ws).map D.str)), some (.str w), none, none, none, none] (Cup pre a' b')) := by
  cases deep with
  | zero =>
    obtain ⟨v, a', b', e1, v0, v1, ok'⟩ := sip_ok (k := k) (pre := pre) ok (many := 3) (by omega) (by omega)
    have hv : v = 0 ∨ v = 1 ∨ v = 2 := by omega
    rcases hv with rfl | rfl | rfl
    · refine ⟨"int", a', b', .inl (.inl rfl), ok', ?_⟩
      rw [C__law_kind, b_kt_eq]; simp [kw_loop hw, e1]
    · refine ⟨"free", a', b', .inl (.inr (.inl rfl)), ok', ?_⟩
      rw [C__law_kind, b_kt_eq]; simp [kw_loop hw, e1]
    · refine ⟨"var", a', b', .inl (.inr (.inr rfl)), ok', ?_⟩
      rw [C__law_kind, b_kt_eq]; simp [kw_loop hw, e1]
  | succ d =>
    have hp := kw_pos hw
    have hl := kw_le (ws := ws)
    obtain ⟨v, a', b', e1, v0, v1, ok'⟩ := sip_ok (k := k) (pre := pre) ok (many := ((kw ws).length : Int)) (by omega) (by omega)
    obtain ⟨n, rfl⟩ : ∃ n : Nat, v = (n : Int) := ⟨v.toNat, by omega⟩
    have hn : n < (kw ws).length := by omega
    have e2 : L2.atI ((kw ws).map D.str) (n : Int) = some (.str (kw ws)[n]) := L2.atI_nat (by rw [List.getElem?_map, List.getElem?_eq_getElem hn]; rfl)
    obtain ⟨m1, m2⟩ := kw_mem (ws := ws) (List.getElem_mem hn)
    refine ⟨(kw ws)[n], a', b', ?_, ok', ?_⟩
    · rcases m2 with m2 | m2 | m2
      · exact .inr ⟨Nat.succ_pos _, m1, m2⟩
      · exact .inl (.inr (.inl m2))
      · exact .inl (.inr (.inr m2))
    · have c : (0 : Int) < (d : Int) + 1 := by omega
      rw [C__law_kind, b_kt_eq]; simp [kw_loop hw, e1, e2, c]
end
end K70
end

section
set_option maxRecDepth 100000
namespace K70
open PySem PV Kn
/-- what a drawn kind is -/
def KSpec (ws : List Str) (deep k : Nat) : Prop := ∀ (pre : Hh) (a b : Int) (u : Nat), u + 5 * deep ≤ 1000 → CupOk a b →
  ∃ (kd : Kd) (a' b' : Int), C k n__law_kind [.ref pre.length, .int (deep : Int), .int 4, .int (u : Int), .tup (wds (w2 ws))] (Cup pre a b) = .ok kd.d (Cup pre a' b') ∧ CupOk a' b' ∧ Gd ws 4 u (2 * deep) kd
def InvC (pre : Hh) (h : Hh) : Prop := ∃ a b, h = Cup pre a b ∧ CupOk a b
/-- tags of a code's kinds -/
def tagged (m : Int) : Nat → List Kd → List (D × Kd)
  | _, [] => []
  | i, k :: r => (.int (2 * (i : Int) + m), k) :: tagged m (i + 1) r
theorem tagged_len (m : Int) : ∀ (i : Nat) (ks : List Kd), (tagged m i ks).length = ks.length
  | _, [] => rfl
  | i, k :: r => by show (tagged m (i + 1) r).length + 1 = _; rw [tagged_len m]; rfl
theorem tagged_snd (m : Int) : ∀ (i : Nat) (ks : List Kd) (p : D × Kd), p ∈ tagged m i ks → p.2 ∈ ks
  | _, [], p, h => by cases h
  | i, k :: r, p, h => by
    (rcases List.mem_cons.mp h with rfl | h)
    · exact List.mem_cons_self
    · exact List.mem_cons_of_mem _ (tagged_snd m (i + 1) r p h)
theorem tagged_get (m : Int) : ∀ (i : Nat) (ks : List Kd) (j : Nat), (tagged m i ks)[j]? = ks[j]?.map fun k => (.int (2 * ((i + j : Nat) : Int) + m), k)
  | _, [], _ => by simp [tagged]
  | i, k :: r, 0 => by simp [tagged]
  | i, k :: r, j + 1 => by
    show (tagged m (i + 1) r)[j]? = _
    rw [tagged_get m (i + 1) r j]
    have : i + 1 + j = i + (j + 1) := by omega
    rw [this]; rfl
theorem tagged_rise {m : Int} (hm : 0 ≤ m) : ∀ (i : Nat) (ks : List Kd), rising ((tagged m i ks).map (·.1)) = true
  | i, ks => by
    unfold rising
    have h1 : ∀ (i : Nat) (ks : List Kd), ((tagged m i ks).map (·.1)).all isNt = true := by
      intro i ks
      induction ks generalizing i with
      | nil => rfl
      | cons k r ih =>
        show (decide (0 ≤ 2 * (i : Int) + m) && ((tagged m (i + 1) r).map (·.1)).all isNt) = true
        rw [ih]
        have : 0 ≤ 2 * (i : Int) + m := by omega
        simp [this]
    have h2 : ∀ (i : Nat) (ks : List Kd), rise ((tagged m i ks).map (·.1)) = true := by
      intro i ks
      induction ks generalizing i with
      | nil => rfl
      | cons k r ih =>
        cases r with
        | nil => rfl
        | cons k2 r =>
          show (decide (2 * (i : Int) + m < 2 * ((i + 1 : Nat) : Int) + m) && rise ((tagged m (i + 1) (k2 :: r)).map (·.1))) = true
          rw [ih]
          have : decide (2 * (i : Int) + m < 2 * ((i + 1 : Nat) : Int) + m) = true := decide_eq_true (by omega)
          rw [this]; rfl
    rw [h1, h2]; rfl
theorem rngD_get (n k : Nat) : (rngD 0 (n : Int))[k]? = if k < n then some (.int (k : Int)) else none := by
  unfold rngD
  rw [List.getElem?_map]
  simp only [Int.sub_zero, Int.toNat_natCast]
  split
  · rename_i hk; rw [List.getElem?_range hk]; simp
  · rename_i hk; rw [List.getElem?_eq_none (by simp; omega)]; rfl
section
variable {pre : Hh} {a b : Int} {d fu : Nat} {ws : List Str} {r0 r5 r6 r8 r9 r10 : Option D}
abbrev W (ws : List Str) : D := .tup (wds (w2 ws))
theorem sub1 (d : Nat) : (((d + 1 : Nat) : Int) - 1) = (d : Int) := by omega
theorem loop_1 {u : Nat} (hu : u + 5 * d ≤ 1000) (ih : KSpec ws d (fu + 2)) (ok : CupOk a b) (xs : List D) (r5 r6 r7 r8 r9 r10 : Option D) :
    ∃ (zs : List Kd) (a' b' : Int), lcLoop (fun _ => true) (lcTurn (.v 7) (evE (F (fu + 2)) G c__law_kind_1) (evE (F (fu + 2)) G x__law_kind_1) [some (.ref pre.length), some (.int ((d : Int) + 1)), some (.int 4), some (.int u), some (W ws), r5, r6, r7, r8, r9, r10]) xs [] (Cup pre a b) = .ok (.lst (zs.map Kd.d)) (Cup pre a' b') ∧ zs.length = xs.length ∧ (∀ z ∈ zs, Gd ws 4 u (2 * d) z) ∧ CupOk a' b' := by
  obtain ⟨zs, h', e, l, q, a', b', rfl, ok'⟩ := lcS (Inv := InvC pre) (turn := lcTurn (.v 7) (evE (F (fu + 2)) G c__law_kind_1) (evE (F (fu + 2)) G x__law_kind_1) [some (.ref pre.length), some (.int ((d : Int) + 1)), some (.int 4), some (.int u), some (W ws), r5, r6, r7, r8, r9, r10]) Kd.d (Gd ws 4 u (2 * d)) (xs := xs) (acc := []) ⟨a, b, rfl, ok⟩ (by
    rintro x _ h ⟨a, b, rfl, ok⟩
    obtain ⟨kd, a', b', e, ok', g⟩ := ih pre a b u hu ok
    exact ⟨kd, _, by simp [e], g, a', b', rfl, ok'⟩)
  exact ⟨zs, a', b', e, l, q, ok'⟩
theorem loop_3 {u m : Nat} (hu : u + m + 5 * d ≤ 1000) (ih : KSpec ws d (fu + 2)) (ok : CupOk a b) (xs : List D) (r5 r6 r7 r8 r10 : Option D) :
    ∃ (zs : List Kd) (a' b' : Int), lcLoop (fun _ => true) (lcTurn (.v 7) (evE (F (fu + 2)) G c__law_kind_3) (evE (F (fu + 2)) G x__law_kind_3) [some (.ref pre.length), some (.int ((d : Int) + 1)), some (.int 4), some (.int u), some (W ws), r5, r6, r7, r8, some (.int m), r10]) xs [] (Cup pre a b) = .ok (.lst (zs.map Kd.d)) (Cup pre a' b') ∧ zs.length = xs.length ∧ (∀ z ∈ zs, Gd ws 4 (u + m) (2 * d) z) ∧ CupOk a' b' := by
  obtain ⟨zs, h', e, l, q, a', b', rfl, ok'⟩ := lcS (Inv := InvC pre) (turn := lcTurn (.v 7) (evE (F (fu + 2)) G c__law_kind_3) (evE (F (fu + 2)) G x__law_kind_3) [some (.ref pre.length), some (.int ((d : Int) + 1)), some (.int 4), some (.int u), some (W ws), r5, r6, r7, r8, some (.int m), r10]) Kd.d (Gd ws 4 (u + m) (2 * d)) (xs := xs) (acc := []) ⟨a, b, rfl, ok⟩ (by
    rintro x _ h ⟨a, b, rfl, ok⟩
    obtain ⟨kd, a', b', e, ok', g⟩ := ih pre a b (u + m) hu ok
    simp only [Int.natCast_add] at e
    exact ⟨kd, _, by simp [e], g, a', b', rfl, ok'⟩)
  exact ⟨zs, a', b', e, l, q, ok'⟩
theorem loop_2 {u : Nat} (hu : u + 5 * d ≤ 1000) (ih : KSpec ws d (fu + 2)) (ok : CupOk a b) (xs : List D) (r5 r6 r7 r8 r9 r10 : Option D) :
    ∃ (zs : List (D × Kd)) (a' b' : Int), lcLoop (fun _ => true) (lcTurn (.v 7) (evE (F (fu + 2)) G c__law_kind_2) (evE (F (fu + 2)) G x__law_kind_2) [some (.ref pre.length), some (.int ((d : Int) + 1)), some (.int 4), some (.int u), some (W ws), r5, r6, r7, r8, r9, r10]) xs [] (Cup pre a b) = .ok (.lst (zs.map fun p => .tup [p.2.d, p.1])) (Cup pre a' b') ∧ zs.length = xs.length ∧ (∀ z ∈ zs, isBl z.1 = true ∧ Gd ws 4 u (2 * d) z.2) ∧ CupOk a' b' := by
  obtain ⟨zs, h', e, l, q, a', b', rfl, ok'⟩ := lcS (Inv := InvC pre) (turn := lcTurn (.v 7) (evE (F (fu + 2)) G c__law_kind_2) (evE (F (fu + 2)) G x__law_kind_2) [some (.ref pre.length), some (.int ((d : Int) + 1)), some (.int 4), some (.int u), some (W ws), r5, r6, r7, r8, r9, r10]) (fun p : D × Kd => .tup [p.2.d, p.1]) (fun z => isBl z.1 = true ∧ Gd ws 4 u (2 * d) z.2) (xs := xs) (acc := []) ⟨a, b, rfl, ok⟩ (by
    rintro x _ h ⟨a, b, rfl, ok⟩
    obtain ⟨kd, a1, b1, e, ok1, g⟩ := ih pre a b u hu ok
    obtain ⟨v, a2, b2, e2, _, _, ok2⟩ := sip_ok (k := fu + 1) (pre := pre) ok1 (many := 2) (by omega) (by omega)
    exact ⟨(.bl (v == 0), kd), _, by simp [e, e2], ⟨rfl, g⟩, a2, b2, rfl, ok2⟩)
  exact ⟨zs, a', b', e, l, q, ok'⟩
theorem loop_4 {h : Hh} {k : Nat} {m : Int} (zs : List Kd) (r0 r1 r2 r3 r4 r5 r6 r7 r8 : Option D) :
    lcLoop (fun _ => true) (lcTurn (.v 7) (evE (F k) G c__law_kind_4) (evE (F k) G x__law_kind_4) [r0, r1, r2, r3, r4, r5, r6, r7, r8, some (.int m), some (.lst (zs.map Kd.d))]) (rngD 0 (zs.length : Int)) [] h = .ok (.lst ((Ks.ofT (tagged m 0 zs)).gs)) h := by
  refine lcA (acc := []) (A2.of_get ?_ fun i x y hx hy => ?_)
  · rw [gs_len, ofT_len, tagged_len]; simp [rngD]
  · rw [rngD_get] at hx
    split at hx
    · rename_i hi
      cases hx
      rw [ofT_gs, List.getElem?_map, tagged_get, List.getElem?_eq_getElem hi] at hy
      cases hy
      have e : L2.atI (zs.map Kd.d) (i : Int) = some (zs[i].d) := L2.atI_nat (by rw [List.getElem?_map, List.getElem?_eq_getElem hi]; rfl)
      have m2 : mulOk 2 (i : Int) = true := mulOk_l (by omega) (by omega)
      simp [e, bin_mul m2]
    · cases hx
end
end K70
end

section
set_option maxRecDepth 100000
namespace K70
open PySem PV Kn
theorem Gd.mono {ws : List Str} {f u d d' : Nat} {k : Kd} (g : Gd ws f u d k) (h : d ≤ d') : Gd ws f u d' k := ⟨g.ok, g.sm, Nat.le_trans g.dep h⟩
section
variable {pre : Hh} {a b : Int} {d fu : Nat} {ws : List Str} {r5 : Option D}
/-- the ends that every depth has -/
theorem tail_leaf (hw : Wds ws) (ok : CupOk a b) (deep u : Nat) (hu5 : u + 5 * deep ≤ 1000) {w : Str} (h : w = "int" ∨ w = "free" ∨ w = "var") :
    ∃ (kd : Kd) (a' b' : Int), finR false (Cup pre a b).length (evSs (F (d + 1)) G b_kt [some (.ref pre.length), some (.int (deep : Int)), some (.int 4), some (.int (u : Int)), some (W ws), r5, some (.str w), none, none, none, none] (Cup pre a b)) = .ok kd.d (Cup pre a' b') ∧ CupOk a' b' ∧ Gd ws 4 u (2 * deep) kd := by
  rcases h with rfl | rfl | rfl
  · exact ⟨.int, a, b, by simp -implicitDefEqProofs [b_kt, Kd.d], ok, hw.int, trivial, Nat.zero_le _⟩
  · obtain ⟨v, a', b', e, v0, v1, ok'⟩ := sip_ok (k := d) (pre := pre) ok (many := 4) (by omega) (by omega)
    obtain ⟨n, rfl⟩ : ∃ n : Nat, v = (n : Int) := ⟨v.toNat, by omega⟩
    exact ⟨.free n, a', b', by simp -implicitDefEqProofs [b_kt, Kd.d, e], ok', by show n < 4; omega, trivial, Nat.zero_le _⟩
  · by_cases hu : 0 < u
    · obtain ⟨v, a', b', e, v0, v1, ok'⟩ := sip_ok (k := d) (pre := pre) ok (many := (u : Int)) (by omega) (by omega)
      obtain ⟨n, rfl⟩ : ∃ n : Nat, v = (n : Int) := ⟨v.toNat, by omega⟩
      have hu' : (0 : Int) < (u : Int) := by omega
      exact ⟨.var n, a', b', by simp -implicitDefEqProofs [b_kt, Kd.d, e, hu], ok', by show n < u; omega, trivial, Nat.zero_le _⟩
    · exact ⟨.int, a, b, by simp -implicitDefEqProofs [b_kt, Kd.d, hu], ok, hw.int, trivial, Nat.zero_le _⟩
theorem many_ok {v : Int} (h0 : 0 ≤ v) (h1 : v < 6) : ∃ m : Nat, m ≤ 5 ∧ L2.atI [D.int 0, .int 1, .int 1, .int 2, .int 2, .int 5] v = some (.int (m : Int)) := by
  have : v = 0 ∨ v = 1 ∨ v = 2 ∨ v = 3 ∨ v = 4 ∨ v = 5 := by omega
  rcases this with rfl | rfl | rfl | rfl | rfl | rfl
  · exact ⟨0, by omega, rfl⟩
  · exact ⟨1, by omega, rfl⟩
  · exact ⟨1, by omega, rfl⟩
  · exact ⟨2, by omega, rfl⟩
  · exact ⟨2, by omega, rfl⟩
  · exact ⟨5, by omega, rfl⟩
theorem hdV_idx {h : Hh} {k : Kd} : (opIdx h k.d (.int 0) = some (.str (Kd.nm k))) ∧ (hdV k.d = (decide (Kd.nm k = "free") || decide (Kd.nm k = "var"))) := by
  refine ⟨idx0 h k, ?_⟩
  cases k with
  | mn m ks => cases m <;> rfl
  | un w k => rfl
  | _ => rfl
theorem nm_str (k : Kd) : PyData.strOk (Kd.nm k) = true := by
  cases k with
  | mn m ks => cases m <;> simp [Kd.nm]
  | un w k => cases w <;> simp [Kd.nm]
  | _ => simp [Kd.nm]
theorem tail_row (hw : Wds ws) (ok : CupOk a b) (ih : KSpec ws d (fu + 2)) (u : Nat) (hu5 : u + 5 * (d + 1) ≤ 1000) (hws : Str.ofString "row" ∈ ws) (r5 : Option D) :
    ∃ (kd : Kd) (a' b' : Int), finR false (Cup pre a b).length (evSs (F (fu + 2)) G b_kt [some (.ref pre.length), some (.int ((d : Int) + 1)), some (.int 4), some (.int (u : Int)), some (W ws), r5, some (.str "row"), none, none, none, none] (Cup pre a b)) = .ok kd.d (Cup pre a' b') ∧ CupOk a' b' ∧ Gd ws 4 u (2 * (d + 1)) kd := by
  have sip := fun {a b : Int} (ok : CupOk a b) (many : Int) (h0 : 0 < many) (h1 : many < 1073741824) => sip_ok (k := fu + 1) (pre := pre) ok h0 h1
  obtain ⟨v, a1, b1, e1, v0, v1, ok1⟩ := sip ok 3 (by omega) (by omega)
  obtain ⟨zs, a2, b2, e2, l2, q2, ok2⟩ := loop_1 (pre := pre) (u := u) (by omega) ih ok1 (rngD 0 v) r5 (some (.str "row")) none none none none
  have hr : rngOk 0 v = true := rng_ok (by omega) (by omega)
  have hz : (rngD 0 v).length ≤ 16777216 := by rw [rngD_len]; omega
  have g := of_gd q2
  refine ⟨.mn .row (Ks.of zs), a2, b2, by simp -implicitDefEqProofs [b_kt, Kd.d, e1, hr, hz, e2, of_ds], ok2, ⟨hws, Nat.zero_le _, trivial, g.ok⟩, ⟨by rw [of_len, l2, rngD_len]; omega, g.sm⟩, ?_⟩
  have := g.dep; simp only [Kd.dep]; omega
theorem tail_one (hw : Wds ws) (ok : CupOk a b) (ih : KSpec ws d (fu + 2)) (u : Nat) (hu5 : u + 5 * (d + 1) ≤ 1000) (hws : Str.ofString "one" ∈ ws) (r5 : Option D) :
    ∃ (kd : Kd) (a' b' : Int), finR false (Cup pre a b).length (evSs (F (fu + 2)) G b_kt [some (.ref pre.length), some (.int ((d : Int) + 1)), some (.int 4), some (.int (u : Int)), some (W ws), r5, some (.str "one"), none, none, none, none] (Cup pre a b)) = .ok kd.d (Cup pre a' b') ∧ CupOk a' b' ∧ Gd ws 4 u (2 * (d + 1)) kd := by
  have sip := fun {a b : Int} (ok : CupOk a b) (many : Int) (h0 : 0 < many) (h1 : many < 1073741824) => sip_ok (k := fu + 1) (pre := pre) ok h0 h1
  obtain ⟨v, a1, b1, e1, v0, v1, ok1⟩ := sip ok 3 (by omega) (by omega)
  obtain ⟨zs, a2, b2, e2, l2, q2, ok2⟩ := loop_1 (pre := pre) (u := u) (by omega) ih ok1 (rngD 0 (v + 1)) r5 (some (.str "one")) none none none none
  have hr : rngOk 0 (v + 1) = true := rng_ok (by omega) (by omega)
  have hz : (rngD 0 (v + 1)).length ≤ 16777216 := by rw [rngD_len]; omega
  have g := of_gd q2
  refine ⟨.mn .one (Ks.of zs), a2, b2, by simp -implicitDefEqProofs [b_kt, Kd.d, e1, hr, hz, e2, of_ds], ok2, ⟨hws, Nat.zero_le _, by show 0 < (Ks.of zs).len; rw [of_len, l2, rngD_len]; omega, g.ok⟩, ⟨by rw [of_len, l2, rngD_len]; omega, g.sm⟩, ?_⟩
  have := g.dep; simp only [Kd.dep]; omega
theorem tail_cell (hw : Wds ws) (ok : CupOk a b) (ih : KSpec ws d (fu + 2)) (u : Nat) (hu5 : u + 5 * (d + 1) ≤ 1000) (hws : Str.ofString "cell" ∈ ws) (r5 : Option D) :
    ∃ (kd : Kd) (a' b' : Int), finR false (Cup pre a b).length (evSs (F (fu + 2)) G b_kt [some (.ref pre.length), some (.int ((d : Int) + 1)), some (.int 4), some (.int (u : Int)), some (W ws), r5, some (.str "cell"), none, none, none, none] (Cup pre a b)) = .ok kd.d (Cup pre a' b') ∧ CupOk a' b' ∧ Gd ws 4 u (2 * (d + 1)) kd := by
  have sip := fun {a b : Int} (ok : CupOk a b) (many : Int) (h0 : 0 < many) (h1 : many < 1073741824) => sip_ok (k := fu + 1) (pre := pre) ok h0 h1
  obtain ⟨kd, a1, b1, e1, ok1, g⟩ := ih pre a b u (by omega) ok
  refine ⟨.un .cel kd, a1, b1, by simp -implicitDefEqProofs [b_kt, Kd.d, e1], ok1, ⟨hws, (fun q => by cases q), g.ok⟩, g.sm, ?_⟩
  have := g.dep; simp only [Kd.dep]; omega
theorem tail_some (hw : Wds ws) (ok : CupOk a b) (ih : KSpec ws d (fu + 2)) (u : Nat) (hu5 : u + 5 * (d + 1) ≤ 1000) (hws : Str.ofString "some" ∈ ws) (r5 : Option D) :
    ∃ (kd : Kd) (a' b' : Int), finR false (Cup pre a b).length (evSs (F (fu + 2)) G b_kt [some (.ref pre.length), some (.int ((d : Int) + 1)), some (.int 4), some (.int (u : Int)), some (W ws), r5, some (.str "some"), none, none, none, none] (Cup pre a b)) = .ok kd.d (Cup pre a' b') ∧ CupOk a' b' ∧ Gd ws 4 u (2 * (d + 1)) kd := by
  have sip := fun {a b : Int} (ok : CupOk a b) (many : Int) (h0 : 0 < many) (h1 : many < 1073741824) => sip_ok (k := fu + 1) (pre := pre) ok h0 h1
  obtain ⟨kd, a1, b1, e1, ok1, g⟩ := ih pre a b (u + 1) (by omega) ok
  simp only [Int.natCast_add, Int.natCast_one] at e1
  refine ⟨.un .som kd, a1, b1, by simp -implicitDefEqProofs [b_kt, Kd.d, e1], ok1, ⟨hws, (fun q => by cases q), g.ok⟩, g.sm, ?_⟩
  have := g.dep; simp only [Kd.dep]; omega
theorem tail_rec (hw : Wds ws) (ok : CupOk a b) (ih : KSpec ws d (fu + 2)) (u : Nat) (hu5 : u + 5 * (d + 1) ≤ 1000) (hws : Str.ofString "rec" ∈ ws) (r5 : Option D) :
    ∃ (kd : Kd) (a' b' : Int), finR false (Cup pre a b).length (evSs (F (fu + 2)) G b_kt [some (.ref pre.length), some (.int ((d : Int) + 1)), some (.int 4), some (.int (u : Int)), some (W ws), r5, some (.str "rec"), none, none, none, none] (Cup pre a b)) = .ok kd.d (Cup pre a' b') ∧ CupOk a' b' ∧ Gd ws 4 u (2 * (d + 1)) kd := by
  have sip := fun {a b : Int} (ok : CupOk a b) (many : Int) (h0 : 0 < many) (h1 : many < 1073741824) => sip_ok (k := fu + 1) (pre := pre) ok h0 h1
  obtain ⟨kd, a1, b1, e1, ok1, g⟩ := ih pre a b (u + 1) (by omega) ok
  simp only [Int.natCast_add, Int.natCast_one] at e1
  have hn := (hdV_idx (h := Cup pre a1 b1) (k := kd)).1
  have hs := nm_str kd
  cases q : hdV kd.d with
  | true =>
    rw [(hdV_idx (h := Cup pre a1 b1) (k := kd)).2] at q
    refine ⟨.un .re (.un .cel kd), a1, b1, ?_, ok1, ⟨hws, (fun _ => rfl), hw.cell, (fun q => by cases q), g.ok⟩, g.sm, ?_⟩
    · rcases Bool.or_eq_true_iff.mp q with q | q
      · simp -implicitDefEqProofs [b_kt, Kd.d, e1, hn, of_decide_eq_true q]
      · simp -implicitDefEqProofs [b_kt, Kd.d, e1, hn, of_decide_eq_true q]
    · have := g.dep; simp only [Kd.dep]; omega
  | false =>
    have q' := q
    rw [(hdV_idx (h := Cup pre a1 b1) (k := kd)).2] at q'
    simp only [Bool.or_eq_false_iff, decide_eq_false_iff_not] at q'
    refine ⟨.un .re kd, a1, b1, by simp -implicitDefEqProofs [b_kt, Kd.d, e1, hn, hs, Ne.symm q'.1, Ne.symm q'.2], ok1, ⟨hws, (fun _ => q), g.ok⟩, g.sm, ?_⟩
    have := g.dep; simp only [Kd.dep]; omega
theorem tail_not (hw : Wds ws) (ok : CupOk a b) (ih : KSpec ws d (fu + 2)) (u : Nat) (hu5 : u + 5 * (d + 1) ≤ 1000) (hws : Str.ofString "not" ∈ ws) (r5 : Option D) :
    ∃ (kd : Kd) (a' b' : Int), finR false (Cup pre a b).length (evSs (F (fu + 2)) G b_kt [some (.ref pre.length), some (.int ((d : Int) + 1)), some (.int 4), some (.int (u : Int)), some (W ws), r5, some (.str "not"), none, none, none, none] (Cup pre a b)) = .ok kd.d (Cup pre a' b') ∧ CupOk a' b' ∧ Gd ws 4 u (2 * (d + 1)) kd := by
  have sip := fun {a b : Int} (ok : CupOk a b) (many : Int) (h0 : 0 < many) (h1 : many < 1073741824) => sip_ok (k := fu + 1) (pre := pre) ok h0 h1
  obtain ⟨v, a1, b1, e1, v0, v1, ok1⟩ := sip ok 6 (by omega) (by omega)
  obtain ⟨m, hm, em⟩ := many_ok v0 v1
  obtain ⟨v2, a2, b2, e2, v20, v21, ok2⟩ := sip ok1 3 (by omega) (by omega)
  obtain ⟨zs, a3, b3, e3, l3, q3, ok3⟩ := loop_3 (pre := pre) (u := u) (m := m) (by omega) ih ok2 (rngD 0 v2) r5 (some (.str "not")) none none none
  have hr : rngOk 0 v2 = true := rng_ok (by omega) (by omega)
  have hz : (rngD 0 v2).length ≤ 16777216 := by rw [rngD_len]; omega
  have g := of_gd q3
  refine ⟨.mn (.not m) (Ks.of zs), a3, b3, by simp -implicitDefEqProofs [b_kt, Kd.d, e1, em, e2, hr, hz, e3, of_ds], ok3, ⟨hws, by show m ≤ 10000; omega, trivial, g.ok⟩, ⟨by rw [of_len, l3, rngD_len]; omega, g.sm⟩, ?_⟩
  have := g.dep; simp only [Kd.dep]; omega
theorem tail_to (hw : Wds ws) (ok : CupOk a b) (ih : KSpec ws d (fu + 2)) (u : Nat) (hu5 : u + 5 * (d + 1) ≤ 1000) (hws : Str.ofString "to" ∈ ws) (r5 : Option D) :
    ∃ (kd : Kd) (a' b' : Int), finR false (Cup pre a b).length (evSs (F (fu + 2)) G b_kt [some (.ref pre.length), some (.int ((d : Int) + 1)), some (.int 4), some (.int (u : Int)), some (W ws), r5, some (.str "to"), none, none, none, none] (Cup pre a b)) = .ok kd.d (Cup pre a' b') ∧ CupOk a' b' ∧ Gd ws 4 u (2 * (d + 1)) kd := by
  have sip := fun {a b : Int} (ok : CupOk a b) (many : Int) (h0 : 0 < many) (h1 : many < 1073741824) => sip_ok (k := fu + 1) (pre := pre) ok h0 h1
  obtain ⟨v, a1, b1, e1, v0, v1, ok1⟩ := sip ok 6 (by omega) (by omega)
  obtain ⟨m, hm, em⟩ := many_ok v0 v1
  obtain ⟨v2, a2, b2, e2, v20, v21, ok2⟩ := sip ok1 3 (by omega) (by omega)
  obtain ⟨zs, a3, b3, e3, l3, q3, ok3⟩ := loop_3 (pre := pre) (u := u) (m := m) (by omega) ih ok2 (rngD 0 v2) r5 (some (.str "to")) none none none
  obtain ⟨kd, a4, b4, e4, ok4, g4⟩ := ih pre a3 b3 (u + m) (by omega) ok3
  simp only [Int.natCast_add] at e4
  have hr : rngOk 0 v2 = true := rng_ok (by omega) (by omega)
  have hz : (rngD 0 v2).length ≤ 16777216 := by rw [rngD_len]; omega
  have g := of_gd q3
  refine ⟨.to m (Ks.of zs) kd, a4, b4, by simp -implicitDefEqProofs [b_kt, Kd.d, e1, em, e2, hr, hz, e3, e4, of_ds], ok4, ⟨hws, by show m ≤ 10000; omega, g.ok, g4.ok⟩, ⟨by rw [of_len, l3, rngD_len]; omega, g.sm, g4.sm⟩, ?_⟩
  have := g.dep; have := g4.dep; simp only [Kd.dep]; omega
theorem tail_room (hw : Wds ws) (ok : CupOk a b) (ih : KSpec ws d (fu + 2)) (u : Nat) (hu5 : u + 5 * (d + 1) ≤ 1000) (hws : Str.ofString "room" ∈ ws) (r5 : Option D) :
    ∃ (kd : Kd) (a' b' : Int), finR false (Cup pre a b).length (evSs (F (fu + 2)) G b_kt [some (.ref pre.length), some (.int ((d : Int) + 1)), some (.int 4), some (.int (u : Int)), some (W ws), r5, some (.str "room"), none, none, none, none] (Cup pre a b)) = .ok kd.d (Cup pre a' b') ∧ CupOk a' b' ∧ Gd ws 4 u (2 * (d + 1)) kd := by
  have sip := fun {a b : Int} (ok : CupOk a b) (many : Int) (h0 : 0 < many) (h1 : many < 1073741824) => sip_ok (k := fu + 1) (pre := pre) ok h0 h1
  obtain ⟨v, a1, b1, e1, v0, v1, ok1⟩ := sip ok 3 (by omega) (by omega)
  obtain ⟨zs, a2, b2, e2, l2, q2, ok2⟩ := loop_2 (pre := pre) (u := u) (by omega) ih ok1 (rngD 0 v) r5 (some (.str "room")) none none none none
  have hr : rngOk 0 v = true := rng_ok (by omega) (by omega)
  have hz : (rngD 0 v).length ≤ 16777216 := by rw [rngD_len]; omega
  have g := ofT_gd (ks := zs) fun k hk => (q2 k hk).2
  refine ⟨.mn .room (Ks.ofT zs), a2, b2, by simp -implicitDefEqProofs [b_kt, Kd.d, e1, hr, hz, e2, ofT_fs], ok2, ⟨hws, Nat.zero_le _, ?_, g.ok⟩, ⟨by rw [ofT_len, l2, rngD_len]; omega, g.sm⟩, ?_⟩
  · show (Ks.ofT zs).tgs.all isBl = true
    rw [ofT_tgs, List.all_map]
    exact List.all_eq_true.mpr fun p hp => (q2 p hp).1
  · have := g.dep; simp only [Kd.dep]; omega
theorem tail_code (hw : Wds ws) (ok : CupOk a b) (ih : KSpec ws d (fu + 2)) (u : Nat) (hu5 : u + 5 * (d + 1) ≤ 1000) (hws : Str.ofString "code" ∈ ws) (r5 : Option D) :
    ∃ (kd : Kd) (a' b' : Int), finR false (Cup pre a b).length (evSs (F (fu + 2)) G b_kt [some (.ref pre.length), some (.int ((d : Int) + 1)), some (.int 4), some (.int (u : Int)), some (W ws), r5, some (.str "code"), none, none, none, none] (Cup pre a b)) = .ok kd.d (Cup pre a' b') ∧ CupOk a' b' ∧ Gd ws 4 u (2 * (d + 1)) kd := by
  have sip := fun {a b : Int} (ok : CupOk a b) (many : Int) (h0 : 0 < many) (h1 : many < 1073741824) => sip_ok (k := fu + 1) (pre := pre) ok h0 h1
  obtain ⟨v, a1, b1, e1, v0, v1, ok1⟩ := sip ok 6 (by omega) (by omega)
  obtain ⟨m, hm, em⟩ := many_ok v0 v1
  obtain ⟨v2, a2, b2, e2, v20, v21, ok2⟩ := sip ok1 3 (by omega) (by omega)
  obtain ⟨zs, a3, b3, e3, l3, q3, ok3⟩ := loop_3 (pre := pre) (u := u) (m := m) (by omega) ih ok2 (rngD 0 v2) r5 (some (.str "code")) none none none
  have hr : rngOk 0 v2 = true := rng_ok (by omega) (by omega)
  have hz : (rngD 0 v2).length ≤ 16777216 := by rw [rngD_len]; omega
  have hl : zs.length ≤ 3 := by rw [l3, rngD_len]; omega
  have hr2 : rngOk 0 (zs.length : Int) = true := rng_ok (by omega) (by omega)
  have hz2 : (rngD 0 (zs.length : Int)).length ≤ 16777216 := by rw [rngD_len]; omega
  have g := ofT_gd (ws := ws) (f := 4) (u := u + m) (dp := 2 * d) (ks := tagged (m : Int) 0 zs) fun k hk => q3 _ (tagged_snd _ _ _ _ hk)
  have e4 := loop_4 (h := Cup pre a3 b3) (k := fu + 2) (m := (m : Int)) zs (some (.ref pre.length)) (some (.int ((d : Int) + 1))) (some (.int 4)) (some (.int (u : Int))) (some (W ws)) r5 (some (.str "code")) none none
  refine ⟨.mn (.code m) (Ks.ofT (tagged (m : Int) 0 zs)), a3, b3, by simp -implicitDefEqProofs [b_kt, Kd.d, e1, em, e2, hr, hz, e3, hr2, hz2, e4], ok3, ⟨hws, by show m ≤ 10000; omega, ?_, g.ok⟩, ⟨by rw [ofT_len, tagged_len]; omega, g.sm⟩, ?_⟩
  · show rising (Ks.ofT (tagged (m : Int) 0 zs)).tgs = true
    rw [ofT_tgs]
    exact tagged_rise (by omega) 0 zs
  · have := g.dep; simp only [Kd.dep]; omega
/-- the ends of a deeper one -/
theorem tail_deep (hw : Wds ws) (ok : CupOk a b) (ih : KSpec ws d (fu + 2)) (u : Nat) (hu5 : u + 5 * (d + 1) ≤ 1000) {w : Str} (h12 : w ∈ twelve) (hws : w ∈ ws) (r5 : Option D) :
    ∃ (kd : Kd) (a' b' : Int), finR false (Cup pre a b).length (evSs (F (fu + 2)) G b_kt [some (.ref pre.length), some (.int ((d : Int) + 1)), some (.int 4), some (.int (u : Int)), some (W ws), r5, some (.str w), none, none, none, none] (Cup pre a b)) = .ok kd.d (Cup pre a' b') ∧ CupOk a' b' ∧ Gd ws 4 u (2 * (d + 1)) kd := by
  simp only [twelve, List.mem_cons, List.not_mem_nil, or_false] at h12
  rcases h12 with rfl | rfl | rfl | rfl | rfl | rfl | rfl | rfl | rfl | rfl | rfl | rfl
  · exact tail_leaf (d := fu + 1) hw ok (d + 1) u hu5 (.inl rfl)
  · exact tail_leaf (d := fu + 1) hw ok (d + 1) u hu5 (.inr (.inl rfl))
  · exact tail_leaf (d := fu + 1) hw ok (d + 1) u hu5 (.inr (.inr rfl))
  · exact tail_row hw ok ih u hu5 hws r5
  · exact tail_one hw ok ih u hu5 hws r5
  · exact tail_cell hw ok ih u hu5 hws r5
  · exact tail_some hw ok ih u hu5 hws r5
  · exact tail_rec hw ok ih u hu5 hws r5
  · exact tail_not hw ok ih u hu5 hws r5
  · exact tail_to hw ok ih u hu5 hws r5
  · exact tail_room hw ok ih u hu5 hws r5
  · exact tail_code hw ok ih u hu5 hws r5
/-- a drawn kind is a good one -/
theorem kind_ok (hw : Wds ws) : ∀ (deep n : Nat), deep ≤ n → KSpec ws deep (n + 2)
  | 0, n, _, pre, a, b, u, hu, ok => by
    obtain ⟨w, a1, b1, hW, ok1, e⟩ := kind_run (pre := pre) (k := n) hw ok 0 (u : Int)
    rcases hW with hW | ⟨h0, _⟩
    · obtain ⟨kd, a2, b2, e2, ok2, g⟩ := tail_leaf (pre := pre) (d := n) hw ok1 0 u hu (r5 := some (.lst ((kw ws).map D.str))) hW
      refine ⟨kd, a2, b2, ?_, ok2, g⟩
      rw [e]
      have l : (Cup pre a b).length = (Cup pre a1 b1).length := by simp [Cup]
      rw [l]; exact e2
    · cases h0
  | d + 1, n + 1, hn, pre, a, b, u, hu, ok => by
    obtain ⟨w, a1, b1, hW, ok1, e⟩ := kind_run (pre := pre) (k := n + 1) hw ok (d + 1) (u : Int)
    have l : (Cup pre a b).length = (Cup pre a1 b1).length := by simp [Cup]
    rcases hW with hW | ⟨_, h12, hws⟩
    · obtain ⟨kd, a2, b2, e2, ok2, g⟩ := tail_leaf (pre := pre) (d := n + 1) hw ok1 (d + 1) u hu (r5 := some (.lst ((kw ws).map D.str))) hW
      refine ⟨kd, a2, b2, ?_, ok2, g⟩
      rw [e, l]; exact e2
    · obtain ⟨kd, a2, b2, e2, ok2, g⟩ := tail_deep (pre := pre) hw ok1 (kind_ok hw d n (by omega)) u hu h12 hws (some (.lst ((kw ws).map D.str)))
      refine ⟨kd, a2, b2, ?_, ok2, g⟩
      rw [e, l]; exact e2
end
end K70
end

section
set_option maxRecDepth 100000
namespace K70
open PySem PV Kn
section
variable {h : Hh} {ss : List Kd} {m n : Nat} {t : D} {g : Leaf} {r0 r1 r2 r3 r4 r5 : Option D}
theorem li_0 : ∀ {ks : Ks}, A2 (TT m t g 0 h) ks.ds (ks.tr g 0).ds →
    A2 (fun x y => lcTurn (.tu [3, 4]) (evE (F m) G c__law_inside_0) (evE (F m) G x__law_inside_0) [r0, r1, some t, r3, r4, r5] x h = .ok (some y) h) ks.gs (ks.tr g 0).gs
  | .nil, _ => .nil
  | .cons b k r, .cons p q => by
    have p : C m n__law_turned [k.d, .int ((0 : Nat) : Int), t] h = .ok (k.tr g 0).d h := p
    simp only [Int.natCast_zero] at p
    exact .cons (by simp [p]) (li_0 q)
theorem li_1 {xs ys : List D} (hb : A2 (TT m t g 0 h) xs ys) :
    A2 (fun x y => lcTurn (.v 4) (evE (F m) G c__law_inside_1) (evE (F m) G x__law_inside_1) [r0, r1, some t, r3, r4, r5] x h = .ok (some y) h) xs ys := hb.imp fun x y p => by
    have p : C m n__law_turned [x, .int ((0 : Nat) : Int), t] h = .ok y h := p
    simp only [Int.natCast_zero] at p
    simp [p]
theorem inside_ok {d : Kd} {f u : Nat} (hs : d.sm) (hB : Kd.isB d = true) (hw : d.wk f u) (hd : d.dep ≤ n + 1) : C (n + 3) n__law_inside [d.d, .tup (kds ss)] h = .ok (Kd.op (d.inn (putG ss) 0)) h := by
  have ht : Told h (.lst [.str "put", .tup (kds ss)]) (putG ss) f := told_put
  cases d with
  | un w k =>
    have e := turned_ok ht k 0 (u + w.bn) n hs hw (by simp [Kd.dep] at hd; omega)
    simp only [Int.natCast_zero] at e
    cases w with
    | cel => cases hB
    | som => simp -implicitDefEqProofs [C__law_inside, Kd.d, Kd.inn, Kd.op, e]
    | re => simp -implicitDefEqProofs [C__law_inside, Kd.d, Kd.inn, Kd.op, e]
  | mn w ks =>
    have e := turneds_ok ht ks 0 (u + w.bn) n hs.2 hw (by simp [Kd.dep] at hd; omega)
    have hz : ks.len ≤ 16777216 := by have := hs.1; omega
    cases w with
    | not b => simp -implicitDefEqProofs [C__law_inside, Kd.d, Kd.inn, Kd.op, hz, lcA (li_1 e)]
    | code b => simp -implicitDefEqProofs [C__law_inside, Kd.d, Kd.inn, Kd.op, hz, lcA (li_0 e)]
    | _ => cases hB
  | to b ks l =>
    have e := turneds_ok ht ks 0 (u + b) n hs.2.1 hw.1 (by simp [Kd.dep] at hd; omega)
    have e2 := turned_ok ht l 0 (u + b) n hs.2.2 hw.2 (by simp [Kd.dep] at hd; omega)
    simp only [Int.natCast_zero] at e2
    have hz : ks.len ≤ 16777216 := by have := hs.1; omega
    simp -implicitDefEqProofs [C__law_inside, Kd.d, Kd.inn, Kd.op, hz, lcA (li_1 e), e2]
  | _ => cases hB
/-! the same -/
theorem lcT {turn : D → Hh → R (Option D)} {h : Hh} : ∀ {xs : List D} {acc : List D}, (∀ x ∈ xs, turn x h = .ok (some (.bl true)) h) → lcLoop (fun _ => true) turn xs acc h = .ok (.lst (acc ++ List.replicate xs.length (.bl true))) h
  | [], acc, _ => by unfold lcLoop; simp
  | x :: xs, acc, t => by
    unfold lcLoop
    rw [if_pos rfl, t x List.mem_cons_self]
    dsimp only
    rw [lcT fun y hy => t y (List.mem_cons_of_mem _ hy)]
    simp [List.replicate_succ]
theorem all_rep (n : Nat) : opBf .all h [.lst (List.replicate n (.bl true))] = some (.bl true) := by
  have : List.replicate n (D.bl true) = (List.replicate n D.non).map fun x => .bl ((fun _ => true) x) := by simp
  rw [this, all_map]
  simp
theorem eqS (x : Str) : opCmp .eq h (.str x) (.str x) = some true := by simp
theorem same_ok : ∀ (n : Nat) (d : D), pl d = true → d.dep ≤ n → C (n + 1) n__law_same [d, d] h = .ok (.bl true) h
  | n, .non, _, _ => by simp -implicitDefEqProofs [C__law_same, D.isNon]
  | n, .bl b, _, _ => by cases b <;> simp -implicitDefEqProofs [C__law_same, D.isNon, D.eqBl]
  | n, .int i, _, _ => by simp -implicitDefEqProofs [C__law_same, D.isNon, D.eqBl, opIsi, D.isF]
  | n, .str x, _, _ => by simp -implicitDefEqProofs [C__law_same, D.isNon, D.eqBl, opIsi, D.isF]
  | n + 1, .tup xs, hp, hd => by
    simp only [pl, Bool.and_eq_true, decide_eq_true_eq] at hp
    have hr : rngOk 0 (xs.length : Int) = true := rng_ok (by omega) (by omega)
    have hz : (rngD 0 (xs.length : Int)).length ≤ 16777216 := by rw [rngD_len]; omega
    have l := lcT (h := h) (turn := lcTurn (.v 2) (evE (F (n + 1)) G c__law_same_0) (evE (F (n + 1)) G x__law_same_0) [some (.tup xs), some (.tup xs), none]) (xs := rngD 0 (xs.length : Int)) (acc := []) (fun x hx => by
      obtain ⟨k, hk⟩ := List.mem_iff_getElem?.mp hx
      rw [rngD_get] at hk
      split at hk
      · rename_i hk2
        cases hk
        have e : L2.atI xs (k : Int) = some xs[k] := L2.atI_nat (List.getElem?_eq_getElem hk2)
        have e2 := same_ok n xs[k] (pls_iff.mp hp.2 _ (List.getElem_mem hk2)) (P64.subd hd (List.getElem_mem hk2))
        simp [e, e2]
      · cases hk)
    have l2 : ((xs.length : Int) == (xs.length : Int)) = true := by simp
    simp -implicitDefEqProofs [C__law_same, D.isNon, D.eqBl, opIsi, D.isF, hr, hz, l, all_rep]
  | n + 1, .lst xs, hp, hd => by
    simp only [pl, Bool.and_eq_true, decide_eq_true_eq] at hp
    have hr : rngOk 0 (xs.length : Int) = true := rng_ok (by omega) (by omega)
    have hz : (rngD 0 (xs.length : Int)).length ≤ 16777216 := by rw [rngD_len]; omega
    have l := lcT (h := h) (turn := lcTurn (.v 2) (evE (F (n + 1)) G c__law_same_0) (evE (F (n + 1)) G x__law_same_0) [some (.lst xs), some (.lst xs), none]) (xs := rngD 0 (xs.length : Int)) (acc := []) (fun x hx => by
      obtain ⟨k, hk⟩ := List.mem_iff_getElem?.mp hx
      rw [rngD_get] at hk
      split at hk
      · rename_i hk2
        cases hk
        have e : L2.atI xs (k : Int) = some xs[k] := L2.atI_nat (List.getElem?_eq_getElem hk2)
        have e2 := same_ok n xs[k] (pls_iff.mp hp.2 _ (List.getElem_mem hk2)) (P64.subd hd (List.getElem_mem hk2))
        simp [e, e2]
      · cases hk)
    simp -implicitDefEqProofs [C__law_same, D.isNon, D.eqBl, opIsi, D.isF, hr, hz, l, all_rep]
  | 0, .tup xs, _, hd => by simp [D.dep] at hd
  | 0, .lst xs, _, hd => by simp [D.dep] at hd
end
end K70
end

section
set_option maxRecDepth 100000
namespace K70
open PySem PV Kn
mutual
theorem eqv_refl : ∀ d : D, d.lay = true → d.eqv d = true
  | .non, _ => rfl
  | .bl b, _ => by simp [D.eqv]
  | .int i, _ => by simp [D.eqv]
  | .str x, _ => by simp [D.eqv]
  | .tup xs, h => eqvs_refl xs h
  | .lst xs, h => eqvs_refl xs h
  | .ref _, h => by cases h
  | .fz _, h => by cases h
  | .ftup _, h => by cases h
theorem eqvs_refl : ∀ xs : List D, D.lays xs = true → D.eqvs xs xs = true
  | [], _ => rfl
  | x :: xs, h => by
    simp only [D.lays, Bool.and_eq_true] at h
    show (x.eqv x && D.eqvs xs xs) = true
    rw [eqv_refl x h.1, eqvs_refl xs h.2]; rfl
end
theorem ne_self {h : Hh} {xs : List D} (hx : (D.tup xs).shp = true) : opCmp .ne h (.tup xs) (.tup xs) = some false := by
  show Option.map _ (if (D.tup xs).shp && (D.tup xs).shp then some ((D.tup xs).eqv (.tup xs)) else none) = _
  have hl : (D.tup xs).lay = true := by unfold D.shp at hx; simp only [Bool.and_eq_true] at hx; exact hx.1
  rw [hx, eqv_refl _ hl]; rfl
theorem eq_self {h : Hh} {xs : List D} (hx : (D.tup xs).shp = true) : opCmp .eq h (.tup xs) (.tup xs) = some true := by
  show (if (D.tup xs).shp && (D.tup xs).shp then some ((D.tup xs).eqv (.tup xs)) else none) = _
  have hl : (D.tup xs).lay = true := by unfold D.shp at hx; simp only [Bool.and_eq_true] at hx; exact hx.1
  rw [hx, eqv_refl _ hl]; rfl
theorem kd_tup (k : Kd) : ∃ xs, k.d = .tup xs := by
  cases k with
  | mn m ks => cases m <;> exact ⟨_, rfl⟩
  | un w k => exact ⟨_, rfl⟩
  | _ => exact ⟨_, rfl⟩
theorem ne_kd {h : Hh} {k : Kd} (hx : P64 k.d) : opCmp .ne h k.d k.d = some false := by
  obtain ⟨xs, e⟩ := kd_tup k
  rw [e] at hx ⊢
  exact ne_self hx.shp
/-- an opened binder -/
theorem inn_gd {ws : List Str} {F N dp : Nat} {ss : List Kd} {bd : Kd} (g : Gd ws F 0 dp bd) (gs : ∀ k ∈ ss, Gd ws F 0 N k) (hl : ss.length = bd.bn) (hB : Kd.isB bd = true) : Gd ws F 0 (dp + N) (bd.inn (putG ss) 0) := by
  have hg := putG_ok (ws := ws) (F := F) fun k hk => (gs k hk).ok
  have hs := putG_sm fun k hk => (gs k hk).sm
  have hd := putG_dep fun k hk => (gs k hk).dep
  cases bd with
  | un w k =>
    have ok : k.ok ws F (0 + w.bn) := g.ok.2.2
    have hw : ss.length = w.bn := hl
    have t := tr_ok (g := putG ss) (s := ss.length) (t := 0) k 0 (by rw [hw]; exact ok) fun v _ => hg v
    have d := tr_dep (g := putG ss) (fun v f n => hd v f n) k 0
    refine ⟨⟨g.ok.1, fun e => hdV_tr (g.ok.2.1 e), ok_le _ t (Nat.le_refl _) (Nat.zero_le _)⟩, tr_sm (fun v f n => hs v f n) k 0 g.sm, ?_⟩
    have := g.dep; simp only [Kd.inn, Kd.dep] at this ⊢; omega
  | mn m ks =>
    have ok : ks.ok ws F (0 + m.bn) := g.ok.2.2.2
    have hw : ss.length = m.bn := hl
    have t := trs_ok (g := putG ss) (s := ss.length) (t := 0) ks 0 (by rw [hw]; exact ok) fun v _ => hg v
    have d := trs_dep (g := putG ss) (fun v f n => hd v f n) ks 0
    refine ⟨⟨g.ok.1, g.ok.2.1, tagOk_tr g.ok.2.2.1, oks_le _ t (Nat.le_refl _) (Nat.zero_le _)⟩, ⟨by rw [tr_len]; exact g.sm.1, trs_sm (fun v f n => hs v f n) ks 0 g.sm.2⟩, ?_⟩
    have := g.dep; simp only [Kd.inn, Kd.dep] at this ⊢; omega
  | to n ks l =>
    have ok1 : ks.ok ws F (0 + n) := g.ok.2.2.1
    have ok2 : l.ok ws F (0 + n) := g.ok.2.2.2
    have hw : ss.length = n := hl
    have t1 := trs_ok (g := putG ss) (s := ss.length) (t := 0) ks 0 (by rw [hw]; exact ok1) fun v _ => hg v
    have t2 := tr_ok (g := putG ss) (s := ss.length) (t := 0) l 0 (by rw [hw]; exact ok2) fun v _ => hg v
    have d1 := trs_dep (g := putG ss) (fun v f n => hd v f n) ks 0
    have d2 := tr_dep (g := putG ss) (fun v f n => hd v f n) l 0
    refine ⟨⟨g.ok.1, g.ok.2.1, oks_le _ t1 (Nat.le_refl _) (Nat.zero_le _), ok_le _ t2 (Nat.le_refl _) (Nat.zero_le _)⟩, ⟨by rw [tr_len]; exact g.sm.1, trs_sm (fun v f n => hs v f n) ks 0 g.sm.2.1, tr_sm (fun v f n => hs v f n) l 0 g.sm.2.2⟩, ?_⟩
    have := g.dep; simp only [Kd.inn, Kd.dep] at this ⊢; omega
  | _ => cases hB
theorem op_pn {ws : List Str} {F dp : Nat} {bd : Kd} (g : Gd ws F 0 dp bd) (hB : Kd.isB bd = true) : PN (3 * dp + 1) (Kd.op bd) := by
  have p := kd_pn g.ok g.sm g.dep
  cases bd with
  | un w k => exact (p.dn (x := k.d) (by simp)).1
  | mn m ks =>
    cases m with
    | not n => exact (p.dn (x := .tup ks.ds) (by simp)).1
    | code n => exact (p.dn (x := .tup ks.gs) (by simp)).1
    | _ => cases hB
  | to n ks l =>
    have h1 := p.1
    have h2 := p.2
    simp only [Kd.d, pl, pls, Bool.and_eq_true] at h1
    simp only [Kd.d, D.dep, D.deps] at h2
    refine ⟨?_, ?_⟩
    · simp only [Kd.op, pl, pls, Bool.and_eq_true]
      exact ⟨by simp, ⟨h1.2.2.2.1, h1.2.2.2.2.1, trivial⟩⟩
    · simp only [Kd.op, D.dep, D.deps]; omega
  | _ => cases hB
theorem op_first {g g' : Leaf} {s : Nat} {bd : Kd} (hB : Kd.isN bd = true) : Kd.op ((Kd.first s (bd.inn g 0)).inn g' 0) = Kd.op ((bd.inn g 0).inn g' 0) := by
  cases bd with
  | mn m ks => cases m <;> first | rfl | cases hB
  | _ => cases hB
theorem first_gd {ws : List Str} {F N dp : Nat} {ss : List Kd} {bd : Kd} (g : Gd ws F 0 dp bd) (gs : ∀ k ∈ ss, Gd ws F 0 N k) (hl : ss.length ≤ bd.bn) (hB : Kd.isN bd = true) : Gd ws F 0 (dp + N) (Kd.first ss.length (bd.inn (putG ss) 0)) ∧ Kd.isN (Kd.first ss.length (bd.inn (putG ss) 0)) = true := by
  have hs := putG_sm fun k hk => (gs k hk).sm
  have hd := putG_dep fun k hk => (gs k hk).dep
  cases bd with
  | mn m ks =>
    have d := trs_dep (g := putG ss) (fun v f n => hd v f n) ks 0
    have dd := g.dep
    cases m with
    | not n =>
      have ok : ks.ok ws F (0 + n) := g.ok.2.2.2
      have hg := fun v => putG_ok2 (ws := ws) (F := F) (s := n) (fun k hk => (gs k hk).ok) hl v
      have t := trs_ok (g := putG ss) (s := n) (t := n - ss.length) ks 0 ok fun v _ => hg v
      refine ⟨⟨⟨g.ok.1, Nat.le_trans (Nat.sub_le _ _) g.ok.2.1, trivial, t⟩, ⟨by rw [tr_len]; exact g.sm.1, trs_sm (fun v f n => hs v f n) ks 0 g.sm.2⟩, ?_⟩, rfl⟩
      simp only [Kd.inn, Kd.first, Kd.dep] at dd ⊢; omega
    | code n =>
      have ok : ks.ok ws F (0 + n) := g.ok.2.2.2
      have hg := fun v => putG_ok2 (ws := ws) (F := F) (s := n) (fun k hk => (gs k hk).ok) hl v
      have t := trs_ok (g := putG ss) (s := n) (t := n - ss.length) ks 0 ok fun v _ => hg v
      refine ⟨⟨⟨g.ok.1, Nat.le_trans (Nat.sub_le _ _) g.ok.2.1, tagOk_tr (m := .code n) g.ok.2.2.1, t⟩, ⟨by rw [tr_len]; exact g.sm.1, trs_sm (fun v f n => hs v f n) ks 0 g.sm.2⟩, ?_⟩, rfl⟩
      simp only [Kd.inn, Kd.first, Kd.dep] at dd ⊢; omega
    | _ => cases hB
  | _ => cases hB
theorem isN_isB {k : Kd} (h : Kd.isN k = true) : Kd.isB k = true := by
  cases k with
  | mn m ks => cases m <;> first | rfl | cases h
  | _ => cases h
theorem inn_put {F : Nat} {ss : List Kd} {bd : Kd} (h : ∀ k ∈ ss, k.wk F 0) (f : Nat) (hf : f ≤ ss.length) (hw : bd.wk F 0) (hl : ss.length = bd.bn) (hB : Kd.isN bd = true) : (bd.inn (putG (ss.take f)) 0).inn (putG (ss.drop f)) 0 = bd.inn (putG ss) 0 := by
  cases bd with
  | mn m ks =>
    have hw : ks.wk F (0 + m.bn) := hw
    have hl : ss.length = m.bn := hl
    show Kd.mn m ((ks.tr (putG (ss.take f)) 0).tr (putG (ss.drop f)) 0) = _
    rw [put_put h f hf ks (by rw [hl]; rw [Nat.zero_add] at hw; exact hw)]; rfl
  | _ => cases hB
end K70
end

section
set_option maxRecDepth 100000
namespace K70
open PySem PV Kn
section
variable {pre : Hh} {a b : Int} {m : Nat} {ws : List Str}
theorem loop_b (hw : Wds ws) (ok : CupOk a b) (xs : List D) (r1 r2 r4 r5 r6 r7 r8 : Option D) :
    ∃ (zs : List Kd) (a' b' : Int), lcLoop (fun _ => true) (lcTurn (.v 5) (evE (F (m + 5)) G c__law_binder_right_0) (evE (F (m + 5)) G x__law_binder_right_0) [some (.ref pre.length), r1, r2, some (W ws), r4, r5, r6, r7, r8]) xs [] (Cup pre a b) = .ok (.lst (zs.map Kd.d)) (Cup pre a' b') ∧ zs.length = xs.length ∧ (∀ z ∈ zs, Gd ws 4 0 6 z) ∧ CupOk a' b' := by
  obtain ⟨zs, h', e, l, q, a', b', rfl, ok'⟩ := lcS (Inv := InvC pre) (turn := lcTurn (.v 5) (evE (F (m + 5)) G c__law_binder_right_0) (evE (F (m + 5)) G x__law_binder_right_0) [some (.ref pre.length), r1, r2, some (W ws), r4, r5, r6, r7, r8]) Kd.d (Gd ws 4 0 6) (xs := xs) (acc := []) ⟨a, b, rfl, ok⟩ (by
    rintro x _ h ⟨a, b, rfl, ok⟩
    obtain ⟨kd, a', b', e, ok', g⟩ := kind_ok hw 3 (m + 3) (by omega) pre a b 0 (by omega) ok
    exact ⟨kd, _, by simp at e; simp [e], g, a', b', rfl, ok'⟩)
  exact ⟨zs, a', b', e, l, q, ok'⟩
end
/-- a for-loop whose turns go on, changing two names -/
theorem forS {h : Hh} {t : Tg} {body : PV.Env → Hh → RS} (I : PV.Env → Prop) : ∀ {xs : List D} {ρ : PV.Env}, I ρ → (∀ x ∈ xs, ∀ ρ, I ρ → ∃ ρ1 ρ2, t.put x ρ = some ρ1 ∧ body ρ1 h = .nxt ρ2 h ∧ I ρ2) → ∃ ρ', forLoop (fun _ => true) t body xs ρ h = .nxt ρ' h ∧ I ρ'
  | [], ρ, hi, _ => ⟨ρ, by unfold forLoop; rfl, hi⟩
  | x :: xs, ρ, hi, st => by
    obtain ⟨ρ1, ρ2, e1, e2, i2⟩ := st x List.mem_cons_self ρ hi
    obtain ⟨ρ', e3, i3⟩ := forS I (xs := xs) i2 fun y hy => st y (List.mem_cons_of_mem _ hy)
    refine ⟨ρ', ?_, i3⟩
    unfold forLoop
    rw [if_pos rfl, e1]
    dsimp only
    rw [e2]
    exact e3
theorem kds_take (ss : List Kd) (f : Nat) : (kds ss).take f = kds (ss.take f) := by simp [kds, List.map_take]
theorem kds_drop (ss : List Kd) (f : Nat) : (kds ss).drop f = kds (ss.drop f) := by simp [kds, List.map_drop]
section
variable {h : Hh} {m : Nat} {ws : List Str} {bd : Kd} {ss : List Kd}
theorem due_same {due : D} (p : PN 50 due) : C (m + 60) n__law_same [.lst [due, due], .lst [due, due]] h = .ok (.bl true) h := by
  refine same_ok (m + 59) _ ?_ ?_
  · simp [pl, pls, p.1]
  · have := p.2; simp [D.dep, D.deps]; omega
/-- one turn at the first ones -/
theorem first_turn (hw : Wds ws) (g : Gd ws 4 0 8 bd) (gs : ∀ k ∈ ss, Gd ws 4 0 6 k) (hl : ss.length = bd.bn) (hB : Kd.isN bd = true) (f : Nat) (hf : f ≤ ss.length) :
    C (m + 60) n_opened_first [bd.d, .tup (kds (ss.take f))] h = .ok (Kd.first f (bd.inn (putG (ss.take f)) 0)).d h ∧
    C (m + 60) n_is_kind [.int 4, (Kd.first f (bd.inn (putG (ss.take f)) 0)).d, W ws] h = .ok (.bl true) h ∧
    P64 (Kd.first f (bd.inn (putG (ss.take f)) 0)).d ∧
    C (m + 60) n__law_inside [(Kd.first f (bd.inn (putG (ss.take f)) 0)).d, .tup (kds (ss.drop f))] h = .ok (Kd.op (bd.inn (putG ss) 0)) h := by
  have hlt : (ss.take f).length = f := by rw [List.length_take]; omega
  have gt : ∀ k ∈ ss.take f, Gd ws 4 0 6 k := fun k hk => gs k (List.mem_of_mem_take hk)
  obtain ⟨gf, hBf⟩ := first_gd g gt (by rw [hlt]; omega) hB
  rw [hlt] at gf hBf
  have pn := kd_pn gf.ok gf.sm gf.dep
  refine ⟨?_, ?_, pn.p64 (by omega), ?_⟩
  · have e := first_ok (h := h) (n := m + 56) (ss := ss.take f) g.sm hB (by rw [hlt]; omega) (by have := g.dep; omega)
    rw [hlt] at e; exact e
  · have hs : ∀ x ∈ w2 ws, PyData.strOk x = true := by
      intro x hx
      (rcases List.mem_append.mp hx with hx | hx)
      · exact hw.ok x hx
      · simp at hx; rcases hx with rfl | rfl <;> simp
    have e := isk_ok (h := h) (ws := w2 ws) (f := 4) hs (by have := hw.len; simp [w2]; omega) 50 (m + 55) 0 (Kd.first f (bd.inn (putG (ss.take f)) 0)).d (by omega) (by omega) (pn.mono (by omega))
    have ik := isK_kd (ws := w2 ws) (f := 4) (Kd.first f (bd.inn (putG (ss.take f)) 0)) 0 51 (ok_ws (fun w hw => List.mem_append_left _ hw) _ gf.ok) (by have := gf.dep; omega)
    simp only [Int.natCast_zero] at ik
    rw [show ((4 : Nat) : Int) = 4 from rfl] at ik
    rw [ik] at e
    simp -implicitDefEqProofs [C_is_kind, e]
  · have e := inside_ok (h := h) (n := m + 57) (ss := ss.drop f) gf.sm (isN_isB hBf) (ok_wk _ gf.ok) (by have := gf.dep; omega)
    rw [op_first hB, inn_put (fun k hk => ok_wk _ (gs k hk).ok) f hf (ok_wk _ g.ok) hl hB] at e
    exact e
theorem slc2 {f : Nat} (hB : Kd.isN bd = true) (hf : f ≤ bd.bn) {g : Leaf} : opSlc h (Kd.first f (bd.inn g 0)).d none (some 2) = some (.tup [.str (Kd.nm bd), .int ((bd.bn : Int) - (f : Int))]) := by
  have e : (bd.bn : Int) - (f : Int) = ((bd.bn - f : Nat) : Int) := sub_nat hf
  rw [e]
  cases bd with
  | mn w ks =>
    cases w with
    | not n =>
      show some (D.tup (cutD [.str "not", .int ((n - f : Nat) : Int), .tup (ks.tr g 0).ds] none (some ((2 : Nat) : Int)))) = _
      rw [cut_take]; rfl
    | code n =>
      show some (D.tup (cutD [.str "code", .int ((n - f : Nat) : Int), .tup (ks.tr g 0).gs] none (some ((2 : Nat) : Int)))) = _
      rw [cut_take]; rfl
    | _ => cases hB
  | _ => cases hB
theorem shp2 (x : Str) (hx : PyData.strOk x = true) (i : Int) : (D.tup [.str x, .int i]).shp = true := shp_flats (by simp [hx])
def b_bt : Ss := match b__law_binder_right with
  | .cons _ (.cons _ (.cons _ (.cons _ (.cons _ (.cons (.for_ _ _ b) _))))) => b
  | _ => .nil
theorem loop_f (hw : Wds ws) (g : Gd ws 4 0 8 bd) (gs : ∀ k ∈ ss, Gd ws 4 0 6 k) (hl : ss.length = bd.bn) (hB : Kd.isN bd = true) {c : D} (pd : PN 50 (Kd.op (bd.inn (putG ss) 0))) (r7 r8 : Option D) :
    ∃ r7' r8', forLoop (fun _ => true) (.v 7) (evSs (F (m + 60)) G b_bt) (rngD 0 ((bd.bn : Int) + 1)) [some c, some bd.d, some (.int bd.bn), some (W ws), some (.tup (kds ss)), none, some (Kd.op (bd.inn (putG ss) 0)), r7, r8] h = .nxt [some c, some bd.d, some (.int bd.bn), some (W ws), some (.tup (kds ss)), none, some (Kd.op (bd.inn (putG ss) 0)), r7', r8'] h := by
  obtain ⟨ρ', e, r7', r8', rfl⟩ := forS (h := h) (t := .v 7) (body := evSs (F (m + 60)) G b_bt) (fun ρ => ∃ r7 r8, ρ = [some c, some bd.d, some (.int bd.bn), some (W ws), some (.tup (kds ss)), none, some (Kd.op (bd.inn (putG ss) 0)), r7, r8]) (xs := rngD 0 ((bd.bn : Int) + 1)) ⟨r7, r8, rfl⟩ (by
    rintro x hx ρ ⟨r7, r8, rfl⟩
    unfold rngD at hx
    obtain ⟨f, hf, rfl⟩ := List.mem_map.mp hx
    have hf := List.mem_range.mp hf
    have hf' : f ≤ ss.length := by omega
    obtain ⟨e1, e2, e3, e4⟩ := first_turn (h := h) (m := m) hw g gs hl hB f hf'
    have e5 := slc2 (h := h) (g := putG (ss.take f)) hB (by rw [← hl]; exact hf')
    have e6 := ne_self (h := h) (shp2 (Kd.nm bd) (nm_str bd) ((bd.bn : Int) - (f : Int)))
    have e7 := ne_kd (h := h) e3
    have e8 := same_ok (h := h) (m + 59) _ pd.1 (by have := pd.2; omega)
    refine ⟨_, _, rfl, ?_, some (.int f), some (Kd.first f (bd.inn (putG (ss.take f)) 0)).d, rfl⟩
    simp -implicitDefEqProofs [b_bt, cut_take, cut_drop, kds_take, kds_drop, e1, e2, e4, e5, e6, e7, e8, idx0, pmD])
  exact ⟨r7', r8', e⟩
end
end K70
end

section
set_option maxRecDepth 100000
namespace K70
open PySem PV Kn
section
variable {pre : Hh} {a b : Int} {m : Nat} {ws : List Str} {bd : Kd}
def b_bh : Ss := match b__law_binder_right with
  | .cons a (.cons b (.cons c (.cons d (.cons e (.cons _ f))))) => .cons a (.cons b (.cons c (.cons d (.cons e (.cons (.for_ (.v 7) (.rng (.bin .add (.var 2) (.con (.int 1)))) b_bt) f)))))
  | _ => .nil
theorem b_bh_eq : b__law_binder_right = b_bh := rfl
theorem nin_nc {h : Hh} (k : Kd) : opCmp .nin h (.str (Kd.nm k)) (.tup [.str "not", .str "code"]) = some (!Kd.isN k) := by
  rw [nin_strs2, if_pos (nm_str k)]
  cases k with
  | mn m ks => cases m <;> simp [Kd.nm, Kd.isN]
  | un w k => cases w <;> simp [Kd.nm, Kd.isN]
  | _ => simp [Kd.nm, Kd.isN]
theorem nm_nn {k : Kd} (hn : Kd.isN k = false) : (¬ Str.ofString "not" = Kd.nm k) ∧ ¬ Str.ofString "code" = Kd.nm k := by
  cases k with
  | mn m ks => cases m <;> first | (simp [Kd.nm]; done) | cases hn
  | un w k => cases w <;> simp [Kd.nm]
  | _ => simp [Kd.nm]
theorem mulL {h : Hh} (x : D) : opBin .mul h (.lst [x]) (.int 2) = some (.lst [x, x]) := rfl
theorem binder_ok (hw : Wds ws) (ok : CupOk a b) (g : Gd ws 4 0 8 bd) (hB : Kd.isB bd = true) :
    ∃ a' b', C (m + 61) n__law_binder_right [.ref pre.length, bd.d, .int bd.bn, W ws] (Cup pre a b) = .ok (.bl true) (Cup pre a' b') ∧ CupOk a' b' := by
  have hbn : bd.bn ≤ 10000 := by
    cases bd with
    | un w k => cases w <;> simp [Kd.bn]
    | mn w ks => exact g.ok.2.1
    | to n ks l => exact g.ok.2.1
    | _ => cases hB
  have hr : rngOk 0 (bd.bn : Int) = true := rng_ok (by omega) (by omega)
  have hz : (rngD 0 (bd.bn : Int)).length ≤ 16777216 := by rw [rngD_len]; omega
  obtain ⟨ss, a1, b1, e1, l1, gs, ok1⟩ := loop_b (pre := pre) (m := m + 55) hw ok (rngD 0 (bd.bn : Int)) (some bd.d) (some (.int bd.bn)) none none none none none
  have hl : ss.length = bd.bn := by rw [l1, rngD_len]; omega
  refine ⟨a1, b1, ?_, ok1⟩
  generalize hh : Cup pre a1 b1 = h at e1
  have gi := inn_gd g gs hl hB
  have hBi : Kd.isB (bd.inn (putG ss) 0) = true := by
    cases bd with
    | un w k => cases w <;> first | rfl | cases hB
    | mn w ks => cases w <;> first | rfl | cases hB
    | to n ks l => rfl
    | _ => cases hB
  have pd : PN 50 (Kd.op (bd.inn (putG ss) 0)) := (op_pn gi hBi).mono (by omega)
  have e2 : C (m + 60) n__law_inside [bd.d, .tup (kds ss)] h = .ok (Kd.op (bd.inn (putG ss) 0)) h := inside_ok (h := h) (n := m + 57) (ss := ss) g.sm hB (ok_wk _ g.ok) (by have := g.dep; omega)
  have e3 : C (m + 60) n_opened [bd.d, .tup (kds ss)] h = .ok (Kd.op (bd.inn (putG ss) 0)) h := opened_ok (h := h) (n := m + 56) (ss := ss) g.sm hB (by have := g.dep; omega)
  have e4 := due_same (h := h) (m := m) pd
  rw [C__law_binder_right, b_bh_eq]
  by_cases hre : Kd.nm bd = "rec"
  · -- rec
    obtain ⟨k, rfl⟩ : ∃ k, bd = .un .re k := by
      cases bd with
      | un w k => cases w <;> first | exact ⟨_, rfl⟩ | simp [Kd.nm] at hre
      | mn w ks => cases w <;> simp [Kd.nm] at hre
      | _ => simp [Kd.nm] at hre
    have g1 : ∀ x ∈ [Kd.un .re k], Gd ws 4 0 8 x := fun x hx => by rw [List.mem_singleton.mp hx]; exact g
    have gi2 := inn_gd g g1 rfl hB
    have pd2 : PN 50 (Kd.op ((Kd.un .re k).inn (putG [Kd.un .re k]) 0)) := (op_pn gi2 rfl).mono (by omega)
    have f1 : C (m + 59) n_opened [(Kd.un .re k).d, .tup [(Kd.un .re k).d]] h = _ := opened_ok (h := h) (n := m + 55) (ss := [Kd.un .re k]) g.sm hB (by have := g.dep; omega)
    have f2 : C (m + 60) n__law_inside [(Kd.un .re k).d, .tup [(Kd.un .re k).d]] h = _ := inside_ok (h := h) (n := m + 57) (ss := [Kd.un .re k]) g.sm hB (ok_wk _ g.ok) (by have := g.dep; omega)
    have f3 := due_same (h := h) (m := m) pd2
    have f4 : C (m + 60) n_unfolded [(Kd.un .re k).d] h = .ok (Kd.op ((Kd.un .re k).inn (putG [Kd.un .re k]) 0)) h := by simp -implicitDefEqProofs [C_unfolded, f1]
    have hn : Kd.isN (Kd.un .re k) = false := rfl
    have e1 : lcLoop (fun _ => true) (lcTurn (.v 5) (evE (F (m + 60)) G c__law_binder_right_0) (evE (F (m + 60)) G x__law_binder_right_0) [some (.ref pre.length), some (Kd.un .re k).d, some (.int ((Kd.un .re k).bn : Int)), some (W ws), none, none, none, none, none]) (rngD 0 ((Kd.un .re k).bn : Int)) [] (Cup pre a b) = .ok (.lst (kds ss)) h := e1
    generalize (Kd.un .re k).bn = bn at *
    generalize Kd.op ((Kd.un .re k).inn (putG [Kd.un .re k]) 0) = due2 at *
    generalize Kd.op ((Kd.un .re k).inn (putG ss) 0) = due at *
    simp -implicitDefEqProofs [b_bh, hr, hz, e1, e2, e3, e4, idx0, hre, f2, f3, f4, nin_nc, hn, pmD, mulL]
  · have e1 : lcLoop (fun _ => true) (lcTurn (.v 5) (evE (F (m + 60)) G c__law_binder_right_0) (evE (F (m + 60)) G x__law_binder_right_0) [some (.ref pre.length), some bd.d, some (.int (bd.bn : Int)), some (W ws), none, none, none, none, none]) (rngD 0 (bd.bn : Int)) [] (Cup pre a b) = .ok (.lst (kds ss)) h := e1
    cases hn : Kd.isN bd with
    | false =>
      generalize Kd.op (bd.inn (putG ss) 0) = due at *
      simp -implicitDefEqProofs [b_bh, hr, hz, e1, e2, e3, e4, idx0, hre, nm_str, (nm_nn hn).1, (nm_nn hn).2, pmD]
    | true =>
      obtain ⟨r7, r8, el⟩ := loop_f (h := h) (m := m) hw g gs hl hn (c := .ref pre.length) pd none none
      have hr2 : rngOk 0 ((bd.bn : Int) + 1) = true := rng_ok (by omega) (by omega)
      generalize Kd.op (bd.inn (putG ss) 0) = due at *
      simp -implicitDefEqProofs [b_bh, hr, hz, e1, e2, e3, e4, idx0, hre, nm_str, pmD, hr2, el]
end
end K70
end

section
set_option maxRecDepth 100000
namespace K70
open PySem PV Kn
theorem shutG_ok {ws : List Str} {F : Nat} {o : List Nat} (v : Nat) : (∀ n, n < F → (shutG o v true n).ok ws F (v + o.length)) ∧ ∀ n, n < v + 0 → (shutG o v false n).ok ws F (v + o.length) := by
  refine ⟨fun n hn => ?_, fun n hn => ?_⟩
  · unfold shutG
    simp only [if_true]
    split
    · rename_i h
      show v + o.idxOf n < v + o.length
      have := List.idxOf_lt_length_iff.mpr h
      omega
    · exact hn
  · unfold shutG
    (simp only [Bool.false_eq_true, if_false])
    split
    · show n < v + o.length; omega
    · omega
theorem shutG_leaf {o : List Nat} (v : Nat) (f : Bool) (n : Nat) : (shutG o v f n).sm ∧ (shutG o v f n).dep = 0 := by
  unfold shutG
  split
  · split <;> exact ⟨trivial, rfl⟩
  · split <;> exact ⟨trivial, rfl⟩
theorem shut_gd {ws : List Str} {F dp : Nat} {o : List Nat} {k : Kd} (g : Gd ws F 0 dp k) : Gd ws F o.length dp (k.tr (shutG o) 0) := by
  have h1 := tr_ok (g := shutG o) (s := 0) (t := o.length) k 0 g.ok fun v _ => shutG_ok v
  have h2 := tr_sm (g := shutG o) (fun v f n => (shutG_leaf v f n).1) k 0 g.sm
  have h3 := tr_dep (g := shutG o) (N := 0) (fun v f n => Nat.le_of_eq (shutG_leaf v f n).2) k 0
  exact ⟨by rw [Nat.zero_add] at h1; exact h1, h2, by have := g.dep; omega⟩
theorem fill_gd {ws : List Str} {F dp N : Nat} {ss : List Kd} {k : Kd} (g : Gd ws ss.length 0 dp k) (gs : ∀ x ∈ ss, Gd ws F 0 N x) : Gd ws F 0 (dp + N) (k.tr (fillG ss) 0) := by
  have e : ∀ v n, n < ss.length → fillG ss v true n ∈ ss := fun v n hn => by
    unfold fillG
    simp only [if_true]
    rw [List.getD_eq_getElem?_getD, List.getElem?_eq_getElem hn]
    exact List.getElem_mem hn
  have e2 : ∀ v n, ¬ n < ss.length → fillG ss v true n = .int := fun v n hn => by
    unfold fillG
    simp only [if_true]
    rw [List.getD_eq_getElem?_getD, List.getElem?_eq_none (by omega)]; rfl
  have h1 := tr_ok (g := fillG ss) (F' := F) (s := 0) (t := 0) k 0 g.ok fun v _ => ⟨fun n hn => ok_le _ (gs _ (e v n hn)).ok (Nat.le_refl _) (Nat.zero_le _), fun n hn => hn⟩
  have h2 := tr_sm (g := fillG ss) (fun v f n => by
    cases f with
    | true =>
      by_cases hn : n < ss.length
      · exact (gs _ (e v n hn)).sm
      · rw [e2 v n hn]; trivial
    | false => trivial) k 0 g.sm
  have h3 := tr_dep (g := fillG ss) (N := N) (fun v f n => by
    cases f with
    | true =>
      by_cases hn : n < ss.length
      · exact (gs _ (e v n hn)).dep
      · rw [e2 v n hn]; exact Nat.zero_le _
    | false => exact Nat.zero_le _) k 0
  exact ⟨h1, h2, by have := g.dep; omega⟩
section
variable {pre : Hh} {a b : Int} {m : Nat} {ws : List Str} {h : Hh}
theorem w2_wds (ws : List Str) : wds ws ++ [D.str (Str.ofString "free"), .str (Str.ofString "var")] = wds (w2 ws) := by simp [wds, w2]
theorem pow18 : opBin .pow h (.int 10) (.int 18) = some (.int 1000000000000000000) := by
  show (if powOk 10 18 then some (D.int (10 ^ (18 : Int).toNat)) else none) = _
  have : powOk 10 18 = true := by decide +kernel
  rw [if_pos this]; rfl
theorem cup_ok (c : Int) : ∃ a b, C (m + 1) n__law_cup [.int c] h = .ok (.ref h.length) (Cup h a b) ∧ CupOk a b := by
  have hb0 : 0 ≤ c % 2147483629 := Int.emod_nonneg _ (by omega)
  have hb1 : c % 2147483629 < 2147483629 := Int.emod_lt_of_pos _ (by omega)
  by_cases hc : 1000000000000000000 ≤ c
  · refine ⟨c - 1000000000000000000, c % 2147483629 + 3, ?_, ⟨by omega, by omega, by omega⟩⟩
    simp -implicitDefEqProofs [C__law_cup, pow18, hc, bin_mod, PV.newObj, Cup]
  · refine ⟨0, c % 2147483629 + 3, ?_, ⟨by omega, by omega, by omega⟩⟩
    simp -implicitDefEqProofs [C__law_cup, pow18, hc, bin_mod, PV.newObj, Cup]
theorem loop_l (hw : Wds ws) (ok : CupOk a b) (xs : List D) (r0 r1 r2 r5 r6 r7 r8 r9 r10 r11 r12 : Option D) :
    ∃ (zs : List Kd) (a' b' : Int), lcLoop (fun _ => true) (lcTurn (.v 10) (evE (F (m + 61)) G c_law_0) (evE (F (m + 61)) G x_law_0) [r0, r1, r2, some (.ref pre.length), some (.tup (wds ws)), r5, r6, r7, r8, r9, r10, r11, r12]) xs [] (Cup pre a b) = .ok (.lst (zs.map Kd.d)) (Cup pre a' b') ∧ zs.length = xs.length ∧ (∀ z ∈ zs, Gd ws 4 0 4 z) ∧ CupOk a' b' := by
  have hz : ws.length + 2 ≤ 16777216 := by have := hw.len; omega
  obtain ⟨zs, h', e, l, q, a', b', rfl, ok'⟩ := lcS (Inv := InvC pre) (turn := lcTurn (.v 10) (evE (F (m + 61)) G c_law_0) (evE (F (m + 61)) G x_law_0) [r0, r1, r2, some (.ref pre.length), some (.tup (wds ws)), r5, r6, r7, r8, r9, r10, r11, r12]) Kd.d (Gd ws 4 0 4) (xs := xs) (acc := []) ⟨a, b, rfl, ok⟩ (by
    rintro x _ h ⟨a, b, rfl, ok⟩
    obtain ⟨kd, a', b', e, ok', g⟩ := kind_ok hw 2 (m + 59) (by omega) pre a b 0 (by omega) ok
    exact ⟨kd, _, by simp at e; simp [wds_len, hz, w2_wds, e], g, a', b', rfl, ok'⟩)
  exact ⟨zs, a', b', e, l, q, ok'⟩
def words3 : D := .lst [.tup (wds ["cell", "int", "not", "one", "rec", "room", "row", "some", "to", "code"]), .tup (wds ["cell", "code", "int", "one", "rec", "room", "some"]), .tup (wds ["cell", "int", "one", "rec", "row", "some", "to"])]
theorem words_ok {v : Int} (h0 : 0 ≤ v) (h1 : v < 3) : ∃ ws, Wds ws ∧ opIdx h words3 (.int v) = some (.tup (wds ws)) := by
  have : v = 0 ∨ v = 1 ∨ v = 2 := by omega
  rcases this with rfl | rfl | rfl
  · exact ⟨["cell", "int", "not", "one", "rec", "room", "row", "some", "to", "code"], ⟨by simp, by simp, by simp, by simp⟩, rfl⟩
  · exact ⟨["cell", "code", "int", "one", "rec", "room", "some"], ⟨by simp, by simp, by simp, by simp⟩, rfl⟩
  · exact ⟨["cell", "int", "one", "rec", "row", "some", "to"], ⟨by simp, by simp, by simp, by simp⟩, rfl⟩
theorem order_ok {v : Int} (h0 : 0 ≤ v) (h1 : v < 4) : ∃ o : List Nat, o.length ≤ 4 ∧ L2.atI [D.ftup [], .ftup [.int 2], .ftup [.int 3, .int 0], .ftup [.int 0, .int 1, .int 2, .int 3]] v = some (.ftup (nds o)) := by
  have : v = 0 ∨ v = 1 ∨ v = 2 ∨ v = 3 := by omega
  rcases this with rfl | rfl | rfl | rfl
  · exact ⟨[], by simp, rfl⟩
  · exact ⟨[2], by simp, rfl⟩
  · exact ⟨[3, 0], by simp, rfl⟩
  · exact ⟨[0, 1, 2, 3], by simp, rfl⟩
theorem inB5 (k : Kd) : opCmp .inn h (.str (Kd.nm k)) (.tup [.str "some", .str "rec", .str "not", .str "to", .str "code"]) = some (Kd.isB k) := by
  rw [in_tup, shp_flats (by simp), shp_str, nm_str]
  cases k with
  | mn m ks => cases m <;> simp [Kd.nm, Kd.isB]
  | un w k => cases w <;> simp [Kd.nm, Kd.isB]
  | _ => simp [Kd.nm, Kd.isB]
end
end K70
end

section
set_option maxRecDepth 100000
namespace K70
open PySem PV Kn
def b_out : Ss := match b_law with
  | .cons _ (.cons _ (.cons (.for_ _ _ b) _)) => b
  | _ => .nil
def b_in : Ss := match b_out with
  | .cons _ (.cons _ (.cons (.for_ _ _ b) _)) => b
  | _ => .nil
theorem isB_cases {k : Kd} (h : Kd.isB k = true) : (k.bn = 1 ∧ (¬ Str.ofString "not" = Kd.nm k) ∧ (¬ Str.ofString "to" = Kd.nm k) ∧ ¬ Str.ofString "code" = Kd.nm k) ∨
    ((Str.ofString "not" = Kd.nm k ∨ Str.ofString "to" = Kd.nm k ∨ Str.ofString "code" = Kd.nm k) ∧ ∀ hh : Hh, opIdx hh k.d (.int 1) = some (.int k.bn)) := by
  cases k with
  | un w k => cases w <;> first | (simp [Kd.nm, Kd.bn]; done) | cases h
  | mn w ks => cases w <;> first | (simp [Kd.nm, Kd.bn, Kd.d]; done) | cases h
  | to n ks l => simp [Kd.nm, Kd.bn, Kd.d]
  | _ => cases h
section
variable {pre : Hh} {a b : Int} {m : Nat} {ws : List Str}
theorem in_turn (hw : Wds ws) (ok : CupOk a b) (r0 r1 r2 r5 r6 r7 r8 r9 r10 r11 r12 : Option D) :
    ∃ a' b' r5' r6' r7' r8' r9' r10' r11' r12', evSs (F (m + 62)) G b_in [r0, r1, r2, some (.ref pre.length), some (.tup (wds ws)), r5, r6, r7, r8, r9, r10, r11, r12] (Cup pre a b) =
      .nxt [r0, r1, r2, some (.ref pre.length), some (.tup (wds ws)), r5', r6', r7', r8', r9', r10', r11', r12'] (Cup pre a' b') ∧ CupOk a' b' := by
  have sip := fun {a b : Int} (ok : CupOk a b) (many : Int) (h0 : 0 < many) (h1 : many < 1073741824) => sip_ok (k := m + 61) (pre := pre) ok h0 h1
  have hz : ws.length + 2 ≤ 16777216 := by have := hw.len; omega
  obtain ⟨v1, a1, b1, e1, v10, v11, ok1⟩ := sip ok 3 (by omega) (by omega)
  obtain ⟨k1, a2, b2, e2, ok2, g1⟩ := kind_ok hw 4 (m + 60) (by omega) pre a1 b1 0 (by omega) ok1
  obtain ⟨v3, a3, b3, e3, v30, v31, ok3⟩ := sip ok2 4 (by omega) (by omega)
  obtain ⟨o, ho, eo⟩ := order_ok v30 v31
  obtain ⟨ss, a4, b4, e4, l4, gs, ok4⟩ := loop_l (m := m + 1) hw ok3 (rngD 0 4) r0 r1 r2 r5 (some (.int v1)) (some k1.d) (some (.ftup (nds o))) r9 r10 r11 r12
  have hl : ss.length = 4 := by rw [l4, rngD_len]; rfl
  obtain ⟨k2, a5, b5, e5, ok5, g2⟩ := kind_ok hw 4 (m + 60) (by omega) pre a4 b4 0 (by omega) ok4
  simp only [Int.natCast_zero] at e2 e5
  have e2 : C (m + 62) n__law_kind [.ref pre.length, .int 4, .int 4, .int 0, W ws] (Cup pre a1 b1) = .ok k1.d (Cup pre a2 b2) := e2
  have e5 : C (m + 62) n__law_kind [.ref pre.length, .int 4, .int 4, .int 0, W ws] (Cup pre a4 b4) = .ok k2.d (Cup pre a5 b5) := e5
  have e4 : lcLoop (fun _ => true) (lcTurn (.v 10) (evE (F (m + 62)) G c_law_0) (evE (F (m + 62)) G x_law_0) [r0, r1, r2, some (.ref pre.length), some (.tup (wds ws)), r5, some (.int v1), some k1.d, some (.ftup (nds o)), r9, r10, r11, r12]) (rngD 0 4) [] (Cup pre a3 b3) = .ok (.lst (kds ss)) (Cup pre a4 b4) := e4
  have hr4 : rngOk 0 4 = true := rng_ok (by omega) (by omega)
  have hz4 : (rngD 0 4).length ≤ 16777216 := by rw [rngD_len]; decide
  -- what is asked of the first kind
  generalize hh : Cup pre a4 b4 = h at e4 e5
  have d1 := g1.dep
  have p1 := kd_pn g1.ok g1.sm g1.dep
  have f1 := isk_ok (h := h) (ws := ws) (f := 4) hw.ok (by have := hw.len; omega) 50 (m + 57) 0 k1.d (by omega) (by omega) (p1.mono (by omega))
  have ik := isK_kd (ws := ws) (f := 4) k1 0 51 g1.ok (by omega)
  simp only [Int.natCast_zero] at ik
  rw [show ((4 : Nat) : Int) = 4 from rfl] at ik
  rw [ik] at f1
  have f1 : C (m + 62) n_is_kind [.int 4, k1.d, .tup (wds ws)] h = .ok (.bl true) h := by simp -implicitDefEqProofs [C_is_kind, f1]
  have gsh := shut_gd (o := o) g1
  have f2 : C (m + 62) n_shut [k1.d, .ftup (nds o)] h = .ok (k1.tr (shutG o) 0).d h := shut_all (n := m + 58) k1 g1.sm (by omega)
  have f3 : C (m + 62) n__law_turned [k1.d, .int ((0 : Nat) : Int), .lst [.str "shut", .ftup (nds o)]] h = .ok (k1.tr (shutG o) 0).d h := turned_ok (n := m + 60) (told_shut (Fr := 4)) k1 0 0 g1.sm (ok_wk _ g1.ok) (by omega)
  have f4 := due_same (h := h) (m := m + 2) ((kd_pn gsh.ok gsh.sm gsh.dep).mono (by omega))
  have g1' : Gd ws ss.length 0 (2 * 4) k1 := by rw [hl]; exact g1
  have gfi := fill_gd g1' gs
  have f5 : C (m + 62) n_filled [k1.d, .tup (kds ss)] h = .ok (k1.tr (fillG ss) 0).d h := fill_ok (n := m + 59) k1 0 g1.sm (ok_wk _ g1'.ok) (by omega)
  have f6 : C (m + 62) n__law_turned [k1.d, .int ((0 : Nat) : Int), .lst [.str "fill", .tup (kds ss)]] h = .ok (k1.tr (fillG ss) 0).d h := turned_ok (n := m + 60) told_fill k1 0 0 g1.sm (ok_wk _ g1'.ok) (by omega)
  have f7 := due_same (h := h) (m := m + 2) ((kd_pn gfi.ok gfi.sm gfi.dep).mono (by omega))
  simp only [Int.natCast_zero] at f3 f6
  -- the last check, at any heap
  obtain ⟨k0, rest, rfl⟩ : ∃ k0 rest, ss = k0 :: rest := by
    cases ss with
    | nil => cases hl
    | cons k0 rest => exact ⟨_, _, rfl⟩
  have g0 := gs k0 List.mem_cons_self
  have at0 : L2.atI (kds (k0 :: rest)) 0 = some k0.d := by simp [kds]
  have g1'' : Gd ws 4 0 (2 * 4) k1 := g1
  have gf4 : ∀ x ∈ [Kd.free 0, .free 1, k0, .free 3], Gd ws 4 0 4 x := fun x hx => by
    (simp only [List.mem_cons, List.not_mem_nil, or_false] at hx)
    rcases hx with rfl | rfl | rfl | rfl
    · exact ⟨by show 0 < 4; omega, trivial, Nat.zero_le _⟩
    · exact ⟨by show 1 < 4; omega, trivial, Nat.zero_le _⟩
    · exact g0
    · exact ⟨by show 3 < 4; omega, trivial, Nat.zero_le _⟩
  have gdue := fill_gd (ss := [Kd.free 0, .free 1, k0, .free 3]) g1'' gf4
  have pdue := kd_pn gdue.ok gdue.sm gdue.dep
  have gs2 := shut_gd (o := [2]) g1
  have fin : ∀ hx : Hh, C (m + 62) n__law_turned [k1.d, .int 0, .lst [.str "fill", .tup [.tup [.str "free", .int 0], .tup [.str "free", .int 1], k0.d, .tup [.str "free", .int 3]]]] hx = .ok (k1.tr (fillG [.free 0, .free 1, k0, .free 3]) 0).d hx ∧
      C (m + 62) n_shut [k1.d, .ftup [.int 2]] hx = .ok (k1.tr (shutG [2]) 0).d hx ∧
      C (m + 62) n_opened [.tup [.str "some", (k1.tr (shutG [2]) 0).d], .tup [k0.d]] hx = .ok (k1.tr (fillG [.free 0, .free 1, k0, .free 3]) 0).d hx ∧
      C (m + 62) n__law_same [(k1.tr (fillG [.free 0, .free 1, k0, .free 3]) 0).d, (k1.tr (fillG [.free 0, .free 1, k0, .free 3]) 0).d] hx = .ok (.bl true) hx := fun hx => by
    refine ⟨?_, ?_, ?_, same_ok (m + 61) _ pdue.1 (by have := pdue.2; omega)⟩
    · have := turned_ok (h := hx) (n := m + 60) (told_fill (ss := [Kd.free 0, .free 1, k0, .free 3])) k1 0 0 g1.sm (ok_wk _ g1.ok) (by omega)
      exact this
    · exact shut_all (n := m + 58) (o := [2]) k1 g1.sm (by omega)
    · have e := opened_ok (h := hx) (n := m + 58) (ss := [k0]) (d := .un .som (k1.tr (shutG [2]) 0)) gs2.sm rfl (by have := gs2.dep; simp only [Kd.dep]; omega)
      rw [show Kd.op ((Kd.un .som (k1.tr (shutG [2]) 0)).inn (putG [k0]) 0) = ((k1.tr (shutG [2]) 0).tr (putG [k0]) 0).d from rfl, shut_put k1 k0 (ok_wk _ g1.ok)] at e
      exact e
  generalize k1.tr (fillG [.free 0, .free 1, k0, .free 3]) 0 = kdue at *
  generalize k1.tr (shutG [2]) 0 = ksh at *
  generalize k1.tr (shutG o) 0 = kso at *
  generalize k1.tr (fillG (k0 :: rest)) 0 = kfi at *
  generalize kds (k0 :: rest) = kss at *
  have hi := inB5 (h := Cup pre a5 b5) k2
  cases hB : Kd.isB k2 with
  | false =>
    rw [hB] at hi
    obtain ⟨q1, q2, q3, q4⟩ := fin (Cup pre a5 b5)
    refine ⟨a5, b5, r5, some (.int v1), some k1.d, some (.ftup (nds o)), some (.tup kss), r10, some k2.d, some kdue.d, ?_, ok5⟩
    simp -implicitDefEqProofs [b_in, b_out, e1, wds_len, hz, w2_wds, e2, e3, eo, hr4, hz4, e4, f1, f2, f3, mulL, f4, f5, f6, f7, pmD, hh, e5, idx0, hi, at0, q1, q2, q3, q4]
  | true =>
    rw [hB] at hi
    obtain ⟨a6, b6, e6, ok6⟩ := binder_ok (m := m + 1) (pre := pre) hw ok5 g2 hB
    have e6 : C (m + 62) n__law_binder_right [.ref pre.length, k2.d, .int k2.bn, .tup (wds (w2 ws))] (Cup pre a5 b5) = .ok (.bl true) (Cup pre a6 b6) := e6
    obtain ⟨q1, q2, q3, q4⟩ := fin (Cup pre a6 b6)
    refine ⟨a6, b6, r5, some (.int k2.bn), some k1.d, some (.ftup (nds o)), some (.tup kss), r10, some k2.d, some kdue.d, ?_, ok6⟩
    rcases isB_cases hB with ⟨hb, n1, n2, n3⟩ | ⟨n1, n2⟩
    · rw [hb] at e6 ⊢
      have e6 : C (m + 62) n__law_binder_right [.ref pre.length, k2.d, .int 1, .tup (wds (w2 ws))] (Cup pre a5 b5) = .ok (.bl true) (Cup pre a6 b6) := e6
      simp -implicitDefEqProofs [b_in, b_out, e1, wds_len, hz, w2_wds, e2, e3, eo, hr4, hz4, e4, f1, f2, f3, mulL, f4, f5, f6, f7, pmD, hh, e5, idx0, hi, at0, q1, q2, q3, q4, n1, n2, n3, nm_str, e6]
    · simp -implicitDefEqProofs [b_in, b_out, e1, wds_len, hz, w2_wds, e2, e3, eo, hr4, hz4, e4, f1, f2, f3, mulL, f4, f5, f6, f7, pmD, hh, e5, idx0, hi, at0, q1, q2, q3, q4, n1, n2, nm_str, e6]
end
end K70
end

section
set_option maxRecDepth 100000
namespace K70
open PySem PV Kn
theorem forG {t : Tg} {body : PV.Env → Hh → RS} (I : PV.Env → Hh → Prop) : ∀ {xs : List D} {ρ : PV.Env} {h : Hh}, I ρ h → (∀ x ∈ xs, ∀ ρ h, I ρ h → ∃ ρ1 ρ2 h2, t.put x ρ = some ρ1 ∧ body ρ1 h = .nxt ρ2 h2 ∧ I ρ2 h2) → ∃ ρ' h', forLoop (fun _ => true) t body xs ρ h = .nxt ρ' h' ∧ I ρ' h'
  | [], ρ, h, hi, _ => ⟨ρ, h, by unfold forLoop; rfl, hi⟩
  | x :: xs, ρ, h, hi, st => by
    obtain ⟨ρ1, ρ2, h2, e1, e2, i2⟩ := st x List.mem_cons_self ρ h hi
    obtain ⟨ρ', h', e3, i3⟩ := forG I (xs := xs) i2 fun y hy => st y (List.mem_cons_of_mem _ hy)
    refine ⟨ρ', h', ?_, i3⟩
    unfold forLoop
    rw [if_pos rfl, e1]
    dsimp only
    rw [e2]
    exact e3
section
variable {m : Nat}
/-- the inner loop -/
theorem in_loop {pre : Hh} {a b : Int} {ws : List Str} (hw : Wds ws) (ok : CupOk a b) (xs : List D) (r0 r1 r2 : Option D) (q : List (Option D)) (hq : q.length = 8) :
    ∃ a' b' q', forLoop (fun _ => true) (.v 5) (evSs (F (m + 62)) G b_in) xs ([r0, r1, r2, some (.ref pre.length), some (.tup (wds ws))] ++ q) (Cup pre a b) = .nxt ([r0, r1, r2, some (.ref pre.length), some (.tup (wds ws))] ++ q') (Cup pre a' b') ∧ q'.length = 8 := by
  obtain ⟨ρ', h', e, a', b', q', rfl, rfl, hq', _⟩ := forG (t := .v 5) (body := evSs (F (m + 62)) G b_in) (fun ρ h => ∃ a b q, ρ = [r0, r1, r2, some (.ref pre.length), some (.tup (wds ws))] ++ q ∧ h = Cup pre a b ∧ q.length = 8 ∧ CupOk a b) (xs := xs) (ρ := [r0, r1, r2, some (.ref pre.length), some (.tup (wds ws))] ++ q) (h := Cup pre a b) ⟨a, b, q, rfl, rfl, hq, ok⟩ (by
    rintro x _ ρ h ⟨a, b, q, rfl, rfl, hq, ok⟩
    obtain ⟨r5, r6, r7, r8, r9, r10, r11, r12, rfl⟩ : ∃ r5 r6 r7 r8 r9 r10 r11 r12, q = [r5, r6, r7, r8, r9, r10, r11, r12] := by
      match q, hq with
      | [r5, r6, r7, r8, r9, r10, r11, r12], _ => exact ⟨_, _, _, _, _, _, _, _, rfl⟩
    obtain ⟨a', b', r5', r6', r7', r8', r9', r10', r11', r12', e, ok'⟩ := in_turn (m := m) (pre := pre) hw ok r0 r1 r2 (some x) r6 r7 r8 r9 r10 r11 r12
    exact ⟨_, _, _, rfl, e, a', b', [r5', r6', r7', r8', r9', r10', r11', r12'], rfl, rfl, rfl, ok'⟩)
  exact ⟨a', b', q', e, hq'⟩
theorem b_out_eq : b_out = .cons (.asg 3 (.call 18 (.cons (.var 2) .nil))) (.cons (.asg 4 (.idx (.var 1) (.call 19 (.cons (.var 3) (.cons (.con (.int 3)) .nil))))) (.cons (.for_ (.v 5) (.rng (.con (.int 8))) b_in) .nil)) := rfl
/-- the outer loop -/
theorem out_loop (cs : List Int) (r0 : Option D) (q : List (Option D)) (hq : q.length = 11) (h : Hh) :
    ∃ q' h', forLoop (fun _ => true) (.v 2) (evSs (F (m + 62)) G b_out) (cs.map D.int) ([r0, some words3] ++ q) h = .nxt ([r0, some words3] ++ q') h' ∧ q'.length = 11 := by
  obtain ⟨ρ', h', e, q', rfl, hq'⟩ := forG (t := .v 2) (body := evSs (F (m + 62)) G b_out) (fun ρ h => ∃ q, ρ = [r0, some words3] ++ q ∧ q.length = 11) (xs := cs.map D.int) (ρ := [r0, some words3] ++ q) (h := h) ⟨q, rfl, hq⟩ (by
    rintro x hx ρ h ⟨q, rfl, hq⟩
    obtain ⟨c, _, rfl⟩ := List.mem_map.mp hx
    obtain ⟨r2, r3, r4, r5, r6, r7, r8, r9, r10, r11, r12, rfl⟩ : ∃ r2 r3 r4 r5 r6 r7 r8 r9 r10 r11 r12, q = [r2, r3, r4, r5, r6, r7, r8, r9, r10, r11, r12] := by
      match q, hq with
      | [r2, r3, r4, r5, r6, r7, r8, r9, r10, r11, r12], _ => exact ⟨_, _, _, _, _, _, _, _, _, _, _, rfl⟩
    obtain ⟨a1, b1, e1, ok1⟩ := cup_ok (m := m + 61) (h := h) c
    obtain ⟨v, a2, b2, e2, v0, v1, ok2⟩ := sip_ok (k := m + 61) (pre := h) ok1 (many := 3) (by omega) (by omega)
    obtain ⟨ws, hw, e3⟩ := words_ok (h := Cup h a2 b2) v0 v1
    obtain ⟨a3, b3, q', e4, hq'⟩ := in_loop (m := m) (pre := h) hw ok2 (rngD 0 8) r0 (some words3) (some (.int c)) [r5, r6, r7, r8, r9, r10, r11, r12] rfl
    have hr : rngOk 0 8 = true := rng_ok (by omega) (by omega)
    simp only [List.cons_append, List.nil_append] at e4
    refine ⟨_, _, Cup h a3 b3, rfl, ?_, some (.int c) :: some (.ref h.length) :: some (.tup (wds ws)) :: q', rfl, by simp [hq']⟩
    · rw [b_out_eq]
      simp -implicitDefEqProofs [e1, e2, e3, e4, hr])
  exact ⟨q', h', e, hq'⟩
def b_lw : Ss := match b_law with
  | .cons a (.cons b (.cons (.for_ t i _) c)) => .cons a (.cons b (.cons (.for_ t i b_out) c))
  | _ => .nil
theorem b_lw_eq : b_law = b_lw := rfl
theorem words3_eq : D.lst [.tup [.str "cell", .str "int", .str "not", .str "one", .str "rec", .str "room", .str "row", .str "some", .str "to", .str "code"], .tup [.str "cell", .str "code", .str "int", .str "one", .str "rec", .str "room", .str "some"], .tup [.str "cell", .str "int", .str "one", .str "rec", .str "row", .str "some", .str "to"]] = words3 := rfl
theorem cut5 (xs : List D) : cutD xs none (some 5) = xs.take 5 := cut_take xs 5
@[simp] theorem slc_fz {h : Hh} (xs : List D) (l u : Option Int) : opSlc h (.fz xs) l u = some (.lst (cutD xs l u)) := rfl
/-- the law, by the evaluator -/
theorem law_ev (ns : List Int) : ∃ h, C (m + 63) n_law [.fz (ns.map D.int)] [] = .ok (.bl true) h := by
  obtain ⟨q', h', e, hq⟩ := out_loop (m := m) (61990795559528099920000000000000000000000692345679713345679021 :: ns.take 5) (some (.fz (ns.map D.int))) [none, none, none, none, none, none, none, none, none, none, none] rfl []
  have hz : 1 + min 5 ns.length ≤ 16777216 := by omega
  refine ⟨h', ?_⟩
  rw [C_law, b_lw_eq]
  simp only [List.cons_append, List.nil_append, List.map_cons, List.map_take] at e
  simp -implicitDefEqProofs [b_lw, words3_eq, cut5, hz, e]
end
end K70
end

section
set_option maxRecDepth 100000
set_option maxHeartbeats 0
namespace K70
open PySem PySem.Spec PyProof.Rows L2 PV
def d_is_integer : He.DefD := ⟨("is_integer", none), "is_integer", "is_integer", defArgs (top 1), defBody (top 1), defScope (top 1), [], []⟩
def d_is_tuple_of : He.DefD := ⟨("is_tuple_of", none), "is_tuple_of", "is_tuple_of", defArgs (top 2), defBody (top 2), defScope (top 2), [], []⟩
def d_is_kinds : He.DefD := ⟨("is_kinds", none), "is_kinds", "is_kinds", defArgs (top 5), defBody (top 5), defScope (top 5), [], []⟩
def d_is_pairs : He.DefD := ⟨("is_pairs", none), "is_pairs", "is_pairs", defArgs (top 6), defBody (top 6), defScope (top 6), [], []⟩
def d_has_form : He.DefD := ⟨("has_form", none), "has_form", "has_form", defArgs (top 7), defBody (top 7), defScope (top 7), [], []⟩
def d_is_rising : He.DefD := ⟨("is_rising", none), "is_rising", "is_rising", defArgs (top 8), defBody (top 8), defScope (top 8), [], []⟩
def d_insides : He.DefD := ⟨("insides", none), "insides", "insides", defArgs (top 9), defBody (top 9), defScope (top 9), [], []⟩
def d_binds : He.DefD := ⟨("binds", none), "binds", "binds", defArgs (top 10), defBody (top 10), defScope (top 10), [], []⟩
def d_with_insides : He.DefD := ⟨("with_insides", none), "with_insides", "with_insides", defArgs (top 11), defBody (top 11), defScope (top 11), [], []⟩
def d_is_kind_below : He.DefD := ⟨("is_kind_below", none), "is_kind_below", "is_kind_below", defArgs (top 12), defBody (top 12), defScope (top 12), [], []⟩
def d_is_kind : He.DefD := ⟨("is_kind", none), "is_kind", "is_kind", defArgs (top 13), defBody (top 13), defScope (top 13), [], []⟩
def d_put_below : He.DefD := ⟨("put_below", none), "put_below", "put_below", defArgs (top 14), defBody (top 14), defScope (top 14), [], []⟩
def d_opened : He.DefD := ⟨("opened", none), "opened", "opened", defArgs (top 15), defBody (top 15), defScope (top 15), [], []⟩
def d_opened_first : He.DefD := ⟨("opened_first", none), "opened_first", "opened_first", defArgs (top 16), defBody (top 16), defScope (top 16), [], []⟩
def d_shut_below : He.DefD := ⟨("shut_below", none), "shut_below", "shut_below", defArgs (top 17), defBody (top 17), defScope (top 17), [], []⟩
def d_shut : He.DefD := ⟨("shut", none), "shut", "shut", defArgs (top 18), defBody (top 18), defScope (top 18), [], []⟩
def d_filled : He.DefD := ⟨("filled", none), "filled", "filled", defArgs (top 19), defBody (top 19), defScope (top 19), [], []⟩
def d_unfolded : He.DefD := ⟨("unfolded", none), "unfolded", "unfolded", defArgs (top 20), defBody (top 20), defScope (top 20), [], []⟩
def d__law_cup : He.DefD := ⟨("_law_cup", none), "_law_cup", "_law_cup", defArgs (top 22), defBody (top 22), defScope (top 22), [], []⟩
def d__law_sip : He.DefD := ⟨("_law_sip", none), "_law_sip", "_law_sip", defArgs (top 23), defBody (top 23), defScope (top 23), [], []⟩
def d__law_same : He.DefD := ⟨("_law_same", none), "_law_same", "_law_same", defArgs (top 24), defBody (top 24), defScope (top 24), [], []⟩
def d__law_kind : He.DefD := ⟨("_law_kind", none), "_law_kind", "_law_kind", defArgs (top 25), defBody (top 25), defScope (top 25), [], []⟩
def d__law_variable : He.DefD := ⟨("_law_variable", none), "_law_variable", "_law_variable", defArgs (top 26), defBody (top 26), defScope (top 26), [], []⟩
def d__law_turned : He.DefD := ⟨("_law_turned", none), "_law_turned", "_law_turned", defArgs (top 27), defBody (top 27), defScope (top 27), [], []⟩
def d__law_inside : He.DefD := ⟨("_law_inside", none), "_law_inside", "_law_inside", defArgs (top 28), defBody (top 28), defScope (top 28), [], []⟩
def d__law_binder_right : He.DefD := ⟨("_law_binder_right", none), "_law_binder_right", "_law_binder_right", defArgs (top 29), defBody (top 29), defScope (top 29), [], []⟩
def d_law : He.DefD := ⟨("law", none), "law", "law", defArgs (top 30), defBody (top 30), defScope (top 30), [], []⟩
def fn : List He.DefD := [d_is_integer, d_is_tuple_of, d_is_kinds, d_is_pairs, d_has_form, d_is_rising, d_insides, d_binds, d_with_insides, d_is_kind_below, d_is_kind, d_put_below, d_opened, d_opened_first, d_shut_below, d_shut, d_filled, d_unfolded, d__law_cup, d__law_sip, d__law_same, d__law_kind, d__law_variable, d__law_turned, d__law_inside, d__law_binder_right, d_law]
def fa : List He.Fa := [.glo "is_integer", .glo "is_tuple_of", .glo "is_kinds", .glo "is_pairs", .glo "has_form", .glo "is_rising", .glo "insides", .glo "binds", .glo "with_insides", .glo "is_kind_below", .glo "is_kind", .glo "put_below", .glo "opened", .glo "opened_first", .glo "shut_below", .glo "shut", .glo "filled", .glo "unfolded", .glo "_law_cup", .glo "_law_sip", .glo "_law_same", .glo "_law_kind", .glo "_law_variable", .glo "_law_turned", .glo "_law_inside", .glo "_law_binder_right", .glo "law", .free "all", .free "bool", .free "int", .free "isinstance", .free "len", .free "list", .free "range", .free "str", .free "tuple", .free "zip", .int "MOST_BOUND" (10000)]
abbrev R0 : PySem.W.OpenRow := PySem.W.OpenLaw.row PySem.Challenge.rw_kindscarried_k70_kinds_opened_shut_fille
abbrev hkD : PySem.W.Hook := He.hookD 4 fa fn
def obD (s : PySem.W.SharedT) : He.AlD := He.obsDG 4 fa fn (HandSHeadRun.getT s)
theorem obD_eq (s : PySem.W.SharedT) : obD s = hkD.obs s.abs := He.obsDG_eq (HandSHeadRun.getT_eq s)
def loose : List PySem.Str := ["is_integer", "is_tuple_of", "is_kinds", "is_pairs", "has_form", "is_rising", "insides", "binds", "with_insides", "is_kind_below", "is_kind", "put_below", "opened", "opened_first", "shut_below", "shut", "filled", "unfolded", "_law_cup", "_law_sip", "_law_same", "_law_kind", "_law_variable", "_law_turned", "_law_inside", "_law_binder_right", "MOST_BOUND"]
theorem run (w : World) : HandSHeadRun.RunEq R0 (PySem.W.view R0.prog [30]) hkD obD 3000 loose w := by
  intro os
  kernel_rfl
end K70
end

section
set_option maxRecDepth 100000
set_option maxHeartbeats 0
namespace K70
open PySem PySem.Spec PyProof.Rows L2 PV
section
variable {h : Heap} {K : PySem.W.Frag} {mg : Str → Option Value}
theorem def_is_integer (X : K.In h) (G : h.Ns mainGlobals mg) (c : He.SaysD fa fn K) : DefOk K mg bs gn T f_is_integer (defArgs (top 1)) (defBody (top 1)) (defScope (top 1)) := by
  obtain ⟨fd, fu⟩ := c.def_ 0 (d := d_is_integer) rfl
  refine ⟨sc_is_integer, ok_is_integer, _, fd, fu, He.glo_ok X G (c.fact 0 (f := .glo "is_integer") rfl), FunD.bindsN fu fun _ _ _ _ _ _ us hl => match us, hl with | [_], _ => rfl, fun q hq => ?_⟩
  exact absurd hq List.not_mem_nil
theorem def_is_tuple_of (X : K.In h) (G : h.Ns mainGlobals mg) (c : He.SaysD fa fn K) : DefOk K mg bs gn T f_is_tuple_of (defArgs (top 2)) (defBody (top 2)) (defScope (top 2)) := by
  obtain ⟨fd, fu⟩ := c.def_ 1 (d := d_is_tuple_of) rfl
  refine ⟨sc_is_tuple_of, ok_is_tuple_of, _, fd, fu, He.glo_ok X G (c.fact 1 (f := .glo "is_tuple_of") rfl), FunD.bindsN fu fun _ _ _ _ _ _ us hl => match us, hl with | [_, _], _ => rfl, fun q hq => ?_⟩
  exact absurd hq List.not_mem_nil
theorem def_is_kinds (X : K.In h) (G : h.Ns mainGlobals mg) (c : He.SaysD fa fn K) : DefOk K mg bs gn T f_is_kinds (defArgs (top 5)) (defBody (top 5)) (defScope (top 5)) := by
  obtain ⟨fd, fu⟩ := c.def_ 2 (d := d_is_kinds) rfl
  refine ⟨sc_is_kinds, ok_is_kinds, _, fd, fu, He.glo_ok X G (c.fact 2 (f := .glo "is_kinds") rfl), FunD.bindsN fu fun _ _ _ _ _ _ us hl => match us, hl with | [_], _ => rfl, fun q hq => ?_⟩
  exact absurd hq List.not_mem_nil
theorem def_is_pairs (X : K.In h) (G : h.Ns mainGlobals mg) (c : He.SaysD fa fn K) : DefOk K mg bs gn T f_is_pairs (defArgs (top 6)) (defBody (top 6)) (defScope (top 6)) := by
  obtain ⟨fd, fu⟩ := c.def_ 3 (d := d_is_pairs) rfl
  refine ⟨sc_is_pairs, ok_is_pairs, _, fd, fu, He.glo_ok X G (c.fact 3 (f := .glo "is_pairs") rfl), FunD.bindsN fu fun _ _ _ _ _ _ us hl => match us, hl with | [_], _ => rfl, fun q hq => ?_⟩
  exact absurd hq List.not_mem_nil
theorem def_has_form (X : K.In h) (G : h.Ns mainGlobals mg) (c : He.SaysD fa fn K) : DefOk K mg bs gn T f_has_form (defArgs (top 7)) (defBody (top 7)) (defScope (top 7)) := by
  obtain ⟨fd, fu⟩ := c.def_ 4 (d := d_has_form) rfl
  refine ⟨sc_has_form, ok_has_form, _, fd, fu, He.glo_ok X G (c.fact 4 (f := .glo "has_form") rfl), FunD.bindsN fu fun _ _ _ _ _ _ us hl => match us, hl with | [_], _ => rfl, fun q hq => ?_⟩
  exact absurd hq List.not_mem_nil
theorem def_is_rising (X : K.In h) (G : h.Ns mainGlobals mg) (c : He.SaysD fa fn K) : DefOk K mg bs gn T f_is_rising (defArgs (top 8)) (defBody (top 8)) (defScope (top 8)) := by
  obtain ⟨fd, fu⟩ := c.def_ 5 (d := d_is_rising) rfl
  refine ⟨sc_is_rising, ok_is_rising, _, fd, fu, He.glo_ok X G (c.fact 5 (f := .glo "is_rising") rfl), FunD.bindsN fu fun _ _ _ _ _ _ us hl => match us, hl with | [_], _ => rfl, fun q hq => ?_⟩
  exact absurd hq List.not_mem_nil
theorem def_insides (X : K.In h) (G : h.Ns mainGlobals mg) (c : He.SaysD fa fn K) : DefOk K mg bs gn T f_insides (defArgs (top 9)) (defBody (top 9)) (defScope (top 9)) := by
  obtain ⟨fd, fu⟩ := c.def_ 6 (d := d_insides) rfl
  refine ⟨sc_insides, ok_insides, _, fd, fu, He.glo_ok X G (c.fact 6 (f := .glo "insides") rfl), FunD.bindsN fu fun _ _ _ _ _ _ us hl => match us, hl with | [_], _ => rfl, fun q hq => ?_⟩
  exact absurd hq List.not_mem_nil
theorem def_binds (X : K.In h) (G : h.Ns mainGlobals mg) (c : He.SaysD fa fn K) : DefOk K mg bs gn T f_binds (defArgs (top 10)) (defBody (top 10)) (defScope (top 10)) := by
  obtain ⟨fd, fu⟩ := c.def_ 7 (d := d_binds) rfl
  refine ⟨sc_binds, ok_binds, _, fd, fu, He.glo_ok X G (c.fact 7 (f := .glo "binds") rfl), FunD.bindsN fu fun _ _ _ _ _ _ us hl => match us, hl with | [_], _ => rfl, fun q hq => ?_⟩
  exact absurd hq List.not_mem_nil
theorem def_with_insides (X : K.In h) (G : h.Ns mainGlobals mg) (c : He.SaysD fa fn K) : DefOk K mg bs gn T f_with_insides (defArgs (top 11)) (defBody (top 11)) (defScope (top 11)) := by
  obtain ⟨fd, fu⟩ := c.def_ 8 (d := d_with_insides) rfl
  refine ⟨sc_with_insides, ok_with_insides, _, fd, fu, He.glo_ok X G (c.fact 8 (f := .glo "with_insides") rfl), FunD.bindsN fu fun _ _ _ _ _ _ us hl => match us, hl with | [_, _], _ => rfl, fun q hq => ?_⟩
  exact absurd hq List.not_mem_nil
theorem def_is_kind_below (X : K.In h) (G : h.Ns mainGlobals mg) (c : He.SaysD fa fn K) : DefOk K mg bs gn T f_is_kind_below (defArgs (top 12)) (defBody (top 12)) (defScope (top 12)) := by
  obtain ⟨fd, fu⟩ := c.def_ 9 (d := d_is_kind_below) rfl
  refine ⟨sc_is_kind_below, ok_is_kind_below, _, fd, fu, He.glo_ok X G (c.fact 9 (f := .glo "is_kind_below") rfl), FunD.bindsN fu fun _ _ _ _ _ _ us hl => match us, hl with | [_, _, _, _], _ => rfl, fun q hq => ?_⟩
  exact absurd hq List.not_mem_nil
theorem def_is_kind (X : K.In h) (G : h.Ns mainGlobals mg) (c : He.SaysD fa fn K) : DefOk K mg bs gn T f_is_kind (defArgs (top 13)) (defBody (top 13)) (defScope (top 13)) := by
  obtain ⟨fd, fu⟩ := c.def_ 10 (d := d_is_kind) rfl
  refine ⟨sc_is_kind, ok_is_kind, _, fd, fu, He.glo_ok X G (c.fact 10 (f := .glo "is_kind") rfl), FunD.bindsN fu fun _ _ _ _ _ _ us hl => match us, hl with | [_, _, _], _ => rfl, fun q hq => ?_⟩
  exact absurd hq List.not_mem_nil
theorem def_put_below (X : K.In h) (G : h.Ns mainGlobals mg) (c : He.SaysD fa fn K) : DefOk K mg bs gn T f_put_below (defArgs (top 14)) (defBody (top 14)) (defScope (top 14)) := by
  obtain ⟨fd, fu⟩ := c.def_ 11 (d := d_put_below) rfl
  refine ⟨sc_put_below, ok_put_below, _, fd, fu, He.glo_ok X G (c.fact 11 (f := .glo "put_below") rfl), FunD.bindsN fu fun _ _ _ _ _ _ us hl => match us, hl with | [_, _, _], _ => rfl, fun q hq => ?_⟩
  exact absurd hq List.not_mem_nil
theorem def_opened (X : K.In h) (G : h.Ns mainGlobals mg) (c : He.SaysD fa fn K) : DefOk K mg bs gn T f_opened (defArgs (top 15)) (defBody (top 15)) (defScope (top 15)) := by
  obtain ⟨fd, fu⟩ := c.def_ 12 (d := d_opened) rfl
  refine ⟨sc_opened, ok_opened, _, fd, fu, He.glo_ok X G (c.fact 12 (f := .glo "opened") rfl), FunD.bindsN fu fun _ _ _ _ _ _ us hl => match us, hl with | [_, _], _ => rfl, fun q hq => ?_⟩
  have hq : q ∈ ([(0, ["kind", "kinds"], [0, 1])] : List (Nat × List Str × List Nat)) := hq
  simp only [List.mem_cons, List.not_mem_nil, or_false] at hq
  rcases hq with rfl
  · exact kw_mk fu rfl fun _ _ _ _ _ _ us ws h1 h2 => match us, ws, h1, h2 with | [], [_, _], _, _ => rfl
theorem def_opened_first (X : K.In h) (G : h.Ns mainGlobals mg) (c : He.SaysD fa fn K) : DefOk K mg bs gn T f_opened_first (defArgs (top 16)) (defBody (top 16)) (defScope (top 16)) := by
  obtain ⟨fd, fu⟩ := c.def_ 13 (d := d_opened_first) rfl
  refine ⟨sc_opened_first, ok_opened_first, _, fd, fu, He.glo_ok X G (c.fact 13 (f := .glo "opened_first") rfl), FunD.bindsN fu fun _ _ _ _ _ _ us hl => match us, hl with | [_, _], _ => rfl, fun q hq => ?_⟩
  have hq : q ∈ ([(0, ["kinds", "kind"], [1, 0])] : List (Nat × List Str × List Nat)) := hq
  simp only [List.mem_cons, List.not_mem_nil, or_false] at hq
  rcases hq with rfl
  · exact kw_mk fu rfl fun _ _ _ _ _ _ us ws h1 h2 => match us, ws, h1, h2 with | [], [_, _], _, _ => rfl
theorem def_shut_below (X : K.In h) (G : h.Ns mainGlobals mg) (c : He.SaysD fa fn K) : DefOk K mg bs gn T f_shut_below (defArgs (top 17)) (defBody (top 17)) (defScope (top 17)) := by
  obtain ⟨fd, fu⟩ := c.def_ 14 (d := d_shut_below) rfl
  refine ⟨sc_shut_below, ok_shut_below, _, fd, fu, He.glo_ok X G (c.fact 14 (f := .glo "shut_below") rfl), FunD.bindsN fu fun _ _ _ _ _ _ us hl => match us, hl with | [_, _, _], _ => rfl, fun q hq => ?_⟩
  exact absurd hq List.not_mem_nil
theorem def_shut (X : K.In h) (G : h.Ns mainGlobals mg) (c : He.SaysD fa fn K) : DefOk K mg bs gn T f_shut (defArgs (top 18)) (defBody (top 18)) (defScope (top 18)) := by
  obtain ⟨fd, fu⟩ := c.def_ 15 (d := d_shut) rfl
  refine ⟨sc_shut, ok_shut, _, fd, fu, He.glo_ok X G (c.fact 15 (f := .glo "shut") rfl), FunD.bindsN fu fun _ _ _ _ _ _ us hl => match us, hl with | [_, _], _ => rfl, fun q hq => ?_⟩
  have hq : q ∈ ([(0, ["order", "kind"], [1, 0])] : List (Nat × List Str × List Nat)) := hq
  simp only [List.mem_cons, List.not_mem_nil, or_false] at hq
  rcases hq with rfl
  · exact kw_mk fu rfl fun _ _ _ _ _ _ us ws h1 h2 => match us, ws, h1, h2 with | [], [_, _], _, _ => rfl
theorem def_filled (X : K.In h) (G : h.Ns mainGlobals mg) (c : He.SaysD fa fn K) : DefOk K mg bs gn T f_filled (defArgs (top 19)) (defBody (top 19)) (defScope (top 19)) := by
  obtain ⟨fd, fu⟩ := c.def_ 16 (d := d_filled) rfl
  refine ⟨sc_filled, ok_filled, _, fd, fu, He.glo_ok X G (c.fact 16 (f := .glo "filled") rfl), FunD.bindsN fu fun _ _ _ _ _ _ us hl => match us, hl with | [_, _], _ => rfl, fun q hq => ?_⟩
  have hq : q ∈ ([(0, ["kinds", "kind"], [1, 0])] : List (Nat × List Str × List Nat)) := hq
  simp only [List.mem_cons, List.not_mem_nil, or_false] at hq
  rcases hq with rfl
  · exact kw_mk fu rfl fun _ _ _ _ _ _ us ws h1 h2 => match us, ws, h1, h2 with | [], [_, _], _, _ => rfl
theorem def_unfolded (X : K.In h) (G : h.Ns mainGlobals mg) (c : He.SaysD fa fn K) : DefOk K mg bs gn T f_unfolded (defArgs (top 20)) (defBody (top 20)) (defScope (top 20)) := by
  obtain ⟨fd, fu⟩ := c.def_ 17 (d := d_unfolded) rfl
  refine ⟨sc_unfolded, ok_unfolded, _, fd, fu, He.glo_ok X G (c.fact 17 (f := .glo "unfolded") rfl), FunD.bindsN fu fun _ _ _ _ _ _ us hl => match us, hl with | [_], _ => rfl, fun q hq => ?_⟩
  have hq : q ∈ ([(0, ["kind"], [0])] : List (Nat × List Str × List Nat)) := hq
  simp only [List.mem_cons, List.not_mem_nil, or_false] at hq
  rcases hq with rfl
  · exact kw_mk fu rfl fun _ _ _ _ _ _ us ws h1 h2 => match us, ws, h1, h2 with | [], [_], _, _ => rfl
theorem def__law_cup (X : K.In h) (G : h.Ns mainGlobals mg) (c : He.SaysD fa fn K) : DefOk K mg bs gn T f__law_cup (defArgs (top 22)) (defBody (top 22)) (defScope (top 22)) := by
  obtain ⟨fd, fu⟩ := c.def_ 18 (d := d__law_cup) rfl
  refine ⟨sc__law_cup, ok__law_cup, _, fd, fu, He.glo_ok X G (c.fact 18 (f := .glo "_law_cup") rfl), FunD.bindsN fu fun _ _ _ _ _ _ us hl => match us, hl with | [_], _ => rfl, fun q hq => ?_⟩
  exact absurd hq List.not_mem_nil
theorem def__law_sip (X : K.In h) (G : h.Ns mainGlobals mg) (c : He.SaysD fa fn K) : DefOk K mg bs gn T f__law_sip (defArgs (top 23)) (defBody (top 23)) (defScope (top 23)) := by
  obtain ⟨fd, fu⟩ := c.def_ 19 (d := d__law_sip) rfl
  refine ⟨sc__law_sip, ok__law_sip, _, fd, fu, He.glo_ok X G (c.fact 19 (f := .glo "_law_sip") rfl), FunD.bindsN fu fun _ _ _ _ _ _ us hl => match us, hl with | [_, _], _ => rfl, fun q hq => ?_⟩
  exact absurd hq List.not_mem_nil
theorem def__law_same (X : K.In h) (G : h.Ns mainGlobals mg) (c : He.SaysD fa fn K) : DefOk K mg bs gn T f__law_same (defArgs (top 24)) (defBody (top 24)) (defScope (top 24)) := by
  obtain ⟨fd, fu⟩ := c.def_ 20 (d := d__law_same) rfl
  refine ⟨sc__law_same, ok__law_same, _, fd, fu, He.glo_ok X G (c.fact 20 (f := .glo "_law_same") rfl), FunD.bindsN fu fun _ _ _ _ _ _ us hl => match us, hl with | [_, _], _ => rfl, fun q hq => ?_⟩
  exact absurd hq List.not_mem_nil
theorem def__law_kind (X : K.In h) (G : h.Ns mainGlobals mg) (c : He.SaysD fa fn K) : DefOk K mg bs gn T f__law_kind (defArgs (top 25)) (defBody (top 25)) (defScope (top 25)) := by
  obtain ⟨fd, fu⟩ := c.def_ 21 (d := d__law_kind) rfl
  refine ⟨sc__law_kind, ok__law_kind, _, fd, fu, He.glo_ok X G (c.fact 21 (f := .glo "_law_kind") rfl), FunD.bindsN fu fun _ _ _ _ _ _ us hl => match us, hl with | [_, _, _, _, _], _ => rfl, fun q hq => ?_⟩
  exact absurd hq List.not_mem_nil
theorem def__law_variable (X : K.In h) (G : h.Ns mainGlobals mg) (c : He.SaysD fa fn K) : DefOk K mg bs gn T f__law_variable (defArgs (top 26)) (defBody (top 26)) (defScope (top 26)) := by
  obtain ⟨fd, fu⟩ := c.def_ 22 (d := d__law_variable) rfl
  refine ⟨sc__law_variable, ok__law_variable, _, fd, fu, He.glo_ok X G (c.fact 22 (f := .glo "_law_variable") rfl), FunD.bindsN fu fun _ _ _ _ _ _ us hl => match us, hl with | [_, _, _, _], _ => rfl, fun q hq => ?_⟩
  exact absurd hq List.not_mem_nil
theorem def__law_turned (X : K.In h) (G : h.Ns mainGlobals mg) (c : He.SaysD fa fn K) : DefOk K mg bs gn T f__law_turned (defArgs (top 27)) (defBody (top 27)) (defScope (top 27)) := by
  obtain ⟨fd, fu⟩ := c.def_ 23 (d := d__law_turned) rfl
  refine ⟨sc__law_turned, ok__law_turned, _, fd, fu, He.glo_ok X G (c.fact 23 (f := .glo "_law_turned") rfl), FunD.bindsN fu fun _ _ _ _ _ _ us hl => match us, hl with | [_, _, _], _ => rfl, fun q hq => ?_⟩
  exact absurd hq List.not_mem_nil
theorem def__law_inside (X : K.In h) (G : h.Ns mainGlobals mg) (c : He.SaysD fa fn K) : DefOk K mg bs gn T f__law_inside (defArgs (top 28)) (defBody (top 28)) (defScope (top 28)) := by
  obtain ⟨fd, fu⟩ := c.def_ 24 (d := d__law_inside) rfl
  refine ⟨sc__law_inside, ok__law_inside, _, fd, fu, He.glo_ok X G (c.fact 24 (f := .glo "_law_inside") rfl), FunD.bindsN fu fun _ _ _ _ _ _ us hl => match us, hl with | [_, _], _ => rfl, fun q hq => ?_⟩
  exact absurd hq List.not_mem_nil
theorem def__law_binder_right (X : K.In h) (G : h.Ns mainGlobals mg) (c : He.SaysD fa fn K) : DefOk K mg bs gn T f__law_binder_right (defArgs (top 29)) (defBody (top 29)) (defScope (top 29)) := by
  obtain ⟨fd, fu⟩ := c.def_ 25 (d := d__law_binder_right) rfl
  refine ⟨sc__law_binder_right, ok__law_binder_right, _, fd, fu, He.glo_ok X G (c.fact 25 (f := .glo "_law_binder_right") rfl), FunD.bindsN fu fun _ _ _ _ _ _ us hl => match us, hl with | [_, _, _, _], _ => rfl, fun q hq => ?_⟩
  exact absurd hq List.not_mem_nil
theorem def_law (X : K.In h) (G : h.Ns mainGlobals mg) (c : He.SaysD fa fn K) : DefOk K mg bs gn T f_law (defArgs (top 30)) (defBody (top 30)) (defScope (top 30)) := by
  obtain ⟨fd, fu⟩ := c.def_ 26 (d := d_law) rfl
  refine ⟨sc_law, ok_law, _, fd, fu, He.glo_ok X G (c.fact 26 (f := .glo "law") rfl), FunD.bindsN fu fun _ _ _ _ _ _ us hl => match us, hl with | [_], _ => rfl, fun q hq => ?_⟩
  exact absurd hq List.not_mem_nil
theorem tab (X : K.In h) (G : h.Ns mainGlobals mg) (c : He.SaysD fa fn K) : ∀ (f : Nat) (fn : Fn), T[f]? = some fn → ∃ params body scope, DefOk K mg bs gn T fn params body scope
  | 0, _, e => by obtain rfl := Option.some.inj e; exact ⟨_, _, _, def_is_integer X G c⟩
  | 1, _, e => by obtain rfl := Option.some.inj e; exact ⟨_, _, _, def_is_tuple_of X G c⟩
  | 2, _, e => by obtain rfl := Option.some.inj e; exact ⟨_, _, _, def_is_kinds X G c⟩
  | 3, _, e => by obtain rfl := Option.some.inj e; exact ⟨_, _, _, def_is_pairs X G c⟩
  | 4, _, e => by obtain rfl := Option.some.inj e; exact ⟨_, _, _, def_has_form X G c⟩
  | 5, _, e => by obtain rfl := Option.some.inj e; exact ⟨_, _, _, def_is_rising X G c⟩
  | 6, _, e => by obtain rfl := Option.some.inj e; exact ⟨_, _, _, def_insides X G c⟩
  | 7, _, e => by obtain rfl := Option.some.inj e; exact ⟨_, _, _, def_binds X G c⟩
  | 8, _, e => by obtain rfl := Option.some.inj e; exact ⟨_, _, _, def_with_insides X G c⟩
  | 9, _, e => by obtain rfl := Option.some.inj e; exact ⟨_, _, _, def_is_kind_below X G c⟩
  | 10, _, e => by obtain rfl := Option.some.inj e; exact ⟨_, _, _, def_is_kind X G c⟩
  | 11, _, e => by obtain rfl := Option.some.inj e; exact ⟨_, _, _, def_put_below X G c⟩
  | 12, _, e => by obtain rfl := Option.some.inj e; exact ⟨_, _, _, def_opened X G c⟩
  | 13, _, e => by obtain rfl := Option.some.inj e; exact ⟨_, _, _, def_opened_first X G c⟩
  | 14, _, e => by obtain rfl := Option.some.inj e; exact ⟨_, _, _, def_shut_below X G c⟩
  | 15, _, e => by obtain rfl := Option.some.inj e; exact ⟨_, _, _, def_shut X G c⟩
  | 16, _, e => by obtain rfl := Option.some.inj e; exact ⟨_, _, _, def_filled X G c⟩
  | 17, _, e => by obtain rfl := Option.some.inj e; exact ⟨_, _, _, def_unfolded X G c⟩
  | 18, _, e => by obtain rfl := Option.some.inj e; exact ⟨_, _, _, def__law_cup X G c⟩
  | 19, _, e => by obtain rfl := Option.some.inj e; exact ⟨_, _, _, def__law_sip X G c⟩
  | 20, _, e => by obtain rfl := Option.some.inj e; exact ⟨_, _, _, def__law_same X G c⟩
  | 21, _, e => by obtain rfl := Option.some.inj e; exact ⟨_, _, _, def__law_kind X G c⟩
  | 22, _, e => by obtain rfl := Option.some.inj e; exact ⟨_, _, _, def__law_variable X G c⟩
  | 23, _, e => by obtain rfl := Option.some.inj e; exact ⟨_, _, _, def__law_turned X G c⟩
  | 24, _, e => by obtain rfl := Option.some.inj e; exact ⟨_, _, _, def__law_inside X G c⟩
  | 25, _, e => by obtain rfl := Option.some.inj e; exact ⟨_, _, _, def__law_binder_right X G c⟩
  | 26, _, e => by obtain rfl := Option.some.inj e; exact ⟨_, _, _, def_law X G c⟩
  | _ + 27, _, e => by cases e
theorem free (X : K.In h) (G : h.Ns mainGlobals mg) (c : He.SaysD fa fn K) : ∀ x ∈ bs, mg x = none := by
  intro x hx
  simp only [bs, List.mem_cons, List.not_mem_nil, or_false] at hx
  rcases hx with rfl | rfl | rfl | rfl | rfl | rfl | rfl | rfl | rfl | rfl
  · exact He.free_ok X G (c.fact 27 (f := .free "all") rfl)
  · exact He.free_ok X G (c.fact 28 (f := .free "bool") rfl)
  · exact He.free_ok X G (c.fact 29 (f := .free "int") rfl)
  · exact He.free_ok X G (c.fact 30 (f := .free "isinstance") rfl)
  · exact He.free_ok X G (c.fact 31 (f := .free "len") rfl)
  · exact He.free_ok X G (c.fact 32 (f := .free "list") rfl)
  · exact He.free_ok X G (c.fact 33 (f := .free "range") rfl)
  · exact He.free_ok X G (c.fact 34 (f := .free "str") rfl)
  · exact He.free_ok X G (c.fact 35 (f := .free "tuple") rfl)
  · exact He.free_ok X G (c.fact 36 (f := .free "zip") rfl)
theorem glob (X : K.In h) (G0 : h.Ns mainGlobals mg) (c : He.SaysD fa fn K) : ∀ (i : Nat) (x : Str) (d : D), gn[i]? = some x → G[i]? = some d → ∃ v u, mg x = some u ∧ L2.RelV v u ∧ ∀ J H, RD K J H d v
  | 0, x, d, e1, e2 => by
    (obtain rfl := Option.some.inj e1)
    (obtain rfl := Option.some.inj e2)
    obtain ⟨t, e⟩ := He.int_ok X G0 (c.fact 37 (f := .int "MOST_BOUND" (10000)) rfl)
    exact ⟨.int (10000), _, e, ⟨_, rfl⟩, fun J H => .int _⟩
  | n + 1, x, d, e1, e2 => by first | cases e2 | (simp at e2)
theorem facts {P : Program} {w : World} {a : Addr} (X : K.In h) (G0 : h.Ns mainGlobals mg) (ha : mg ("law" : Str) = some (.ref a)) (c : He.SaysD fa fn K) :
    ∃ fd : FuncData, (∀ (s : Shared) (v : Value), BindsTo s fd ⟨[v], []⟩ [("script", v)]) ∧ ∀ base : Heap, K.In base → base.Ns mainGlobals mg → FnG P w K mg base 63 a fd ["script"] (spF K (callN T G 63) 26 1) := by
  obtain ⟨fd, fu⟩ := c.def_ 26 (d := d_law) rfl
  have e := ha.symm.trans (He.glo_ok X G0 (c.fact 26 (f := .glo "law") rfl))
  cases e
  have b := FunD.bindsA (ps := ["script"]) fu fun _ _ _ _ _ _ us hl => match us, hl with | [_], _ => rfl
  exact ⟨fd, fun s v => b s [v] rfl, fun base _ _ => def_step (fn := f_law) (free X G0 c) (glob X G0 c) (tab_ok (tab X G0 c) (free X G0 c) (glob X G0 c) 62) rfl sc_law ok_law fu⟩
end
end K70
open PyProof.Rows PySem PySem.W PySem.Calls
theorem PySem.Challenge.cw_kindscarried_k70_kinds_opened_shut_fille_holds : PySem.Challenge.rw_kindscarried_k70_kinds_opened_shut_fille.Holds := by
  w_on; o_law
  refine HandSHeadRun.head_any (r := OpenLaw.row PySem.Challenge.rw_kindscarried_k70_kinds_opened_shut_fille) (q := view (OpenLaw.row PySem.Challenge.rw_kindscarried_k70_kinds_opened_shut_fille).prog [30]) (H := K70.hkD) (ob := K70.obD) (M := 3000) (loose := K70.loose) (d := HandSHeadRun.topDef (OpenLaw.row PySem.Challenge.rw_kindscarried_k70_kinds_opened_shut_fille).prog 30) (kwd := []) K70.obD_eq
    (by kernel_rfl) (fun s => by kernel_rfl) K70.run (by kernel_rfl) (by kernel_rfl) (by kernel_rfl) (by rfl) (by first | assumption | decide +kernel) (by decide +kernel) ⟨rfl, rfl, rfl, rfl, rfl, by decide +kernel⟩ ?hw ?hc
  case hw => w_witness2
  case hc =>
    refine PV.walk_g (l := PySem.Challenge.rw_kindscarried_k70_kinds_opened_shut_fille) (n := 63) (k := 63) (x := "script") rfl (by decide) (by kernel_rfl) ⟨rfl, by decide, by decide⟩ ?F
    intro w mg fa h Y G hmg0
    obtain ⟨K, KX, c⟩ := Y
    have hmg1 : mg ("law" : PySem.Str) = some (.ref fa) := by
      have e : (HandSHeadRun.topDef (OpenLaw.row PySem.Challenge.rw_kindscarried_k70_kinds_opened_shut_fille).prog 30).name = ("law" : PySem.Str) := by kernel_rfl
      rw [← e]
      exact hmg0
    obtain ⟨fd, hb, hF⟩ := K70.facts (P := (PySem.Challenge.rw_kindscarried_k70_kinds_opened_shut_fille).prog) (w := w) KX G hmg1 c
    exact ⟨K, fd, _, KX, hb, fun H a ns hl hO hS => PV.law_sp (fn := K70.f_law) rfl rfl (fun ns _ => K70.law_ev (m := 0) ns) (by decide) H a ns hl hO hS, hF⟩
end
