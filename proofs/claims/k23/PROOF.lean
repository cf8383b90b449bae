import PyProof.Rows.All
import Wide.All
import OpenK.AllK
import Wide.FinOn
import PyProof.P3Statements
import PyProof.ReprReads
import KE.DataEq
import HandS.ForMost
import HandS.TupAny
import HandS.TupMul
import HandS.Wide
import HandS.TupLe
import HandS.SortInts
import HandS.IsInst
import HandS.Conv
import HandS.Zip
import HandS.Small
import PyProof.ReprLen
import PyProof.CallFns
import HandS.Sort
import HandS.SortOrd
import HandS.SortRule
import KE.SortData
import HandS.Style
import HandS.ForExc
import HandS.ExcInit
import HandS.RaiseMore
import KE.KExcIs
import PyProof.Draws
import PyProof.EnumMake
import HandS.Iter
import HandS.Deep
import HandS.Strs
import HandS.More
import KE.KDictPairs
import HandS.SetFor
import PyProof.DictUpdate
import HandS.ExcField
import HandS.ExcIs
import HandS.TryOnly
import HandS.ExcValue
import PySem.Challenge.RW_classtab_k23_groups_over_parts
set_option Elab.async false
set_option linter.all false
section MPy
set_option linter.all false
/-! MPy: a small language that stands beside the given syntax: values without a heap, a store of cells, an evaluator. -/
namespace MP
open PySem

abbrev LIM : Nat := 16777216

/-- a value: plain data; a cell; a list or dict just made, that nothing holds -/
inductive Tr where
  | leaf (i : Nat)
  | node (ts : List Tr)
inductive D where
  | dat (d : PyData)
  | ref (i : Nat)
  | newL (xs : List PyData)
  | newD (t : Bool) (kvs : List (PyData × PyData))
  | tree (ts : List Tr)
/-- a tree of cells: its lists are never written, its leaves may be -/
def trD : Tr → D
  | .leaf i => .ref i
  | .node ts => .tree ts

/-- an exception: the number of its class, its fields -/
structure Exc where
  cls : Nat
  fs : List (Str × PyData)
inductive Cell where
  | lst (xs : List PyData)
  | dct (t : Bool) (kvs : List (PyData × PyData))
  | dead
  | exc (x : Exc)

abbrev Store := List Cell
abbrev Env := List (Option D)

inductive Res (α : Type) where
  | ok (a : α) (st : Store)
  | exc (x : Exc) (st : Store)
  | no

def M (α : Type) := Store → Res α
@[reducible] def M.ret {α : Type} (a : α) : M α := fun st => .ok a st
@[reducible] def M.bnd {α β : Type} (m : M α) (k : α → M β) : M β := fun st => match m st with
  | .ok a st' => k a st'
  | .exc x st' => .exc x st'
  | .no => .no
instance : Monad M where
  pure := M.ret
  bind := M.bnd
def fail {α : Type} : M α := fun _ => .no
def ofO {α : Type} : Option α → M α
  | some a => pure a
  | none => fail
/-- no exception is let out -/
def noX {α : Type} (m : M α) : M α := fun st => match m st with
  | .exc _ _ => .no
  | r => r
def guardB (b : Bool) : M Unit := if b then pure () else fail

/-! ### data -/
mutual
/-- no dict within, at most n deep -/
def shal : Nat → PyData → Bool
  | _, .none => true
  | _, .bool _ => true
  | _, .int _ => true
  | _, .str _ => true
  | 0, .list _ => false
  | 0, .tuple _ => false
  | n + 1, .list xs => shalAll n xs
  | n + 1, .tuple xs => shalAll n xs
  | _, .dict _ => false
def shalAll : Nat → List PyData → Bool
  | _, [] => true
  | n, x :: xs => shal n x && shalAll n xs
end
mutual
/-- no shorter than what repr shows -/
def wid : PyData → Nat
  | .none => 4
  | .bool _ => 5
  | .int i => i.natAbs.log2 + 3
  | .str x => (reprText x).length
  | .list xs => widAll xs + 3
  | .tuple xs => widAll xs + 3
  | .dict _ => 0
def widAll : List PyData → Nat
  | [] => 0
  | x :: xs => wid x + 2 + widAll xs
end
def isInt : PyData → Bool
  | .int _ => true
  | _ => false
def toInt : PyData → Option Int
  | .int i => some i
  | _ => none
def allInts : List PyData → Option (List Int)
  | [] => some []
  | .int i :: r => (allInts r).map (i :: ·)
  | _ => none
def toBool : PyData → Option Bool
  | .bool b => some b
  | _ => none
def allBools : List PyData → Option (List Bool)
  | [] => some []
  | .bool i :: r => (allBools r).map (i :: ·)
  | _ => none

/-! ### operators -/
inductive Bop where
  | add | sub | mul | fdiv | mod | pow
inductive Cop where
  | eq | ne | lt | le | gt | ge | isN | notN

/-- the place that an index means -/
def ixPl (n : Nat) (i : Int) : Option Nat := if 0 ≤ i then (if i < n then some i.toNat else none) else if -(n : Int) ≤ i then some (i + n).toNat else none
def cutIx (n d : Nat) : Option Int → Nat
  | none => d
  | some v => if v < 0 then (v + (n : Int)).toNat else min v.toNat n
def cut {α : Type} (xs : List α) (lo hi : Option Int) : List α := (xs.drop (cutIx xs.length 0 lo)).take (cutIx xs.length xs.length hi - cutIx xs.length 0 lo)

def addV : PyData → PyData → Option D
  | .int a, .int b => some (.dat (.int (a + b)))
  | .str a, .str b => if a.length + b.length ≤ LIM then some (.dat (.str (a ++ b))) else none
  | .tuple a, .tuple b => if a.length + b.length ≤ LIM then some (.dat (.tuple (a ++ b))) else none
  | .list a, .list b => if a.length + b.length ≤ LIM then some (.newL (a ++ b)) else none
  | _, _ => none
def mulV : PyData → PyData → Option D
  | .int a, .int b => if a.natAbs.log2 + b.natAbs.log2 < 1000000 then some (.dat (.int (a * b))) else none
  | .tuple a, .int k => if -1000 ≤ k ∧ k ≤ 1000 ∧ a.length ≤ 1000 then some (.dat (.tuple (List.replicate k.toNat a).flatten)) else none
  | .list a, .int k => if -1000 ≤ k ∧ k ≤ 100000 ∧ a.length * k.toNat ≤ LIM then some (.newL (List.replicate k.toNat a).flatten) else none
  | _, _ => none
def subV : PyData → PyData → Option D
  | .int a, .int b => some (.dat (.int (a - b)))
  | _, _ => none
def fdivV : PyData → PyData → Option D
  | .int a, .int b => if 0 < b ∧ b.natAbs.log2 < 9000 then some (.dat (.int (a / b))) else none
  | _, _ => none
def modV : PyData → PyData → Option D
  | .int a, .int b => if 0 < b then some (.dat (.int (a % b))) else none
  | _, _ => none
def powV : PyData → PyData → Option D
  | .int a, .int b => if 0 ≤ b ∧ b ≤ 1000000 ∧ a.natAbs < 2 ^ 64 then some (.dat (.int (a ^ b.toNat))) else none
  | _, _ => none
def bopV : Bop → PyData → PyData → Option D
  | .add => addV
  | .mul => mulV
  | .sub => subV
  | .fdiv => fdivV
  | .mod => modV
  | .pow => powV
def augV (op : Bop) (a b : PyData) : Option PyData := match op, a, b with
  | .add, .int i, .int j => some (.int (i + j))
  | .sub, .int i, .int j => some (.int (i - j))
  | _, _, _ => none
def isNone : PyData → Bool
  | .none => true
  | _ => false
def cmpI (p : Int → Int → Bool) : PyData → PyData → Option Bool
  | .int a, .int b => some (p a b)
  | _, _ => none
def cmpN (p : Bool → Bool) : PyData → PyData → Option Bool
  | .bool a, .bool b => some (p (decide (a = b)))
  | x, .none => some (p (isNone x))
  | _, _ => none
def cmpE (p : Bool → Bool) (x y : PyData) : Option Bool := if shal 60 x && shal 60 y then some (p (PyData.eqv x y)) else none
def copV : Cop → PyData → PyData → Option Bool
  | .eq => cmpE id
  | .ne => cmpE not
  | .lt => cmpI fun a b => decide (a < b)
  | .le => cmpI fun a b => decide (a ≤ b)
  | .gt => cmpI fun a b => decide (b < a)
  | .ge => cmpI fun a b => decide (b ≤ a)
  | .isN => cmpN id
  | .notN => cmpN not
/-- x in xs -/
def inV (x : PyData) : PyData → Option Bool
  | .list xs => if shal 60 x && shalAll 60 xs then some (xs.any fun y => PyData.eqv y x) else none
  | .tuple xs => if shal 60 x && shalAll 60 xs then some (xs.any fun y => PyData.eqv y x) else none
  | _ => none
def idxV : PyData → PyData → Option PyData
  | .list xs, .int i => (ixPl xs.length i).bind fun j => xs[j]?
  | .tuple xs, .int i => (ixPl xs.length i).bind fun j => xs[j]?
  | _, _ => none
def cutV : PyData → Option Int → Option Int → Option D
  | .list xs, lo, hi => some (.newL (cut xs lo hi))
  | .tuple xs, lo, hi => some (.dat (.tuple (cut xs lo hi)))
  | _, _, _ => none

/-! ### built-in functions of data -/
inductive Ty where
  | int | bool | str | tuple | list | dict
  deriving DecidableEq
def tyOf : PyData → Option Ty
  | .none => none
  | .bool _ => some .bool
  | .int _ => some .int
  | .str _ => some .str
  | .list _ => some .list
  | .tuple _ => some .tuple
  | .dict _ => some .dict
def isiV (t : Ty) (d : PyData) : Bool := decide (tyOf d = some t) || (decide (t = .int) && decide (tyOf d = some .bool))
inductive Bi where
  | len | abs | int | repr | list | tuple | sum | all | any | sorted | min2 | max2 | minL
def truth : PyData → Option Bool
  | .none => some false
  | .bool b => some b
  | .int i => some (i != 0)
  | _ => none
def ins (a : Int) : List Int → List Int
  | [] => [a]
  | b :: r => if a ≤ b then a :: b :: r else b :: ins a r
def isort : List Int → List Int
  | [] => []
  | a :: r => ins a (isort r)
/-- rows of whole numbers, by their first places that differ -/
def lexL' (fin : Bool) : List Int → List Int → Bool
  | a :: x, b :: y => if a = b then lexL' fin x y else decide (a < b)
  | _, _ => fin
def lexL : List Int → List Int → Bool
  | [], [] => false
  | [], _ :: _ => true
  | _ :: _, [] => false
  | a :: x, b :: y => if a = b then lexL x y else decide (a < b)
def tins (a : List Int) : List (List Int) → List (List Int)
  | [] => [a]
  | b :: r => if lexL b a then b :: tins a r else a :: b :: r
def tsort : List (List Int) → List (List Int)
  | [] => []
  | a :: r => tins a (tsort r)
/-- tuples of whole numbers, none empty -/
def allTups : List PyData → Option (List (List Int))
  | [] => some []
  | .tuple xs :: r => if xs.isEmpty then none else match allInts xs with
    | some ns => (allTups r).map (ns :: ·)
    | none => none
  | _ => none
/-- rows of rows of whole numbers, by their first rows that differ -/
def lex2 : List (List Int) → List (List Int) → Bool
  | [], [] => false
  | [], _ :: _ => true
  | _ :: _, [] => false
  | a :: x, b :: y => if a = b then lex2 x y else lexL a b
def ttsort (l : List (List (List Int))) : List (List (List Int)) := l.mergeSort fun a b => !lex2 b a
/-- tuples of whole numbers -/
def allRows : List PyData → Option (List (List Int))
  | [] => some []
  | .tuple xs :: r => match allInts xs with
    | some ns => (allRows r).map (ns :: ·)
    | none => none
  | _ => none
/-- tuples of tuples of whole numbers, none empty -/
def allTbls : List PyData → Option (List (List (List Int)))
  | [] => some []
  | .tuple xs :: r => if xs.isEmpty then none else match allRows xs with
    | some t => (allTbls r).map (t :: ·)
    | none => none
  | _ => none
def tblD (t : List (List Int)) : PyData := .tuple (t.map fun ns => .tuple (ns.map .int))
/-- lists of whole numbers -/
def allLsts : List PyData → Option (List (List Int))
  | [] => some []
  | .list xs :: r => match allInts xs with
    | some ns => (allLsts r).map (ns :: ·)
    | none => none
  | _ => none
def lenB : List PyData → Option D
  | [.list xs] => some (.dat (.int xs.length))
  | [.tuple xs] => some (.dat (.int xs.length))
  | [.str x] => if x.length ≤ LIM then some (.dat (.int x.length)) else none
  | _ => none
def absB : List PyData → Option D
  | [.int i] => some (.dat (.int (if i < 0 then -i else i)))
  | _ => none
def intB : List PyData → Option D
  | [.int i] => some (.dat (.int i))
  | [.bool b] => some (.dat (.int (if b then 1 else 0)))
  | _ => none
def isSc : PyData → Bool
  | .none => true
  | .bool _ => true
  | .int _ => true
  | .str _ => true
  | _ => false
def isKy : PyData → Bool
  | .int _ => true
  | .str _ => true
  | _ => false
def reprB : List PyData → Option D
  | [.dict kvs] => if !kvs.isEmpty && (kvs.all fun p => isKy p.1 && isSc p.2) && (PyData.dict kvs).showable && decide ((PyData.dict kvs).shown.length ≤ LIM) then some (.dat (.str (PyData.dict kvs).shown)) else none
  | [d] => if shal 60 d && d.showable && decide (wid d ≤ LIM) then some (.dat (.str d.shown)) else none
  | _ => none
def listB : List PyData → Option D
  | [.list xs] => some (.newL xs)
  | [.tuple xs] => some (.newL xs)
  | _ => none
def tupleB : List PyData → Option D
  | [.list xs] => some (.dat (.tuple xs))
  | [.tuple xs] => some (.dat (.tuple xs))
  | _ => none
def sumB : List PyData → Option D
  | [.list xs] => (allInts xs).map fun ns => .dat (.int ns.sum)
  | [.tuple xs] => (allInts xs).map fun ns => .dat (.int ns.sum)
  | _ => none
def truths : List PyData → Option (List Bool)
  | [] => some []
  | x :: r => match truth x with
    | some b => (truths r).map (b :: ·)
    | none => none
def allB : List PyData → Option D
  | [.list xs] => (truths xs).map fun bs => .dat (.bool (bs.all id))
  | [.tuple xs] => (truths xs).map fun bs => .dat (.bool (bs.all id))
  | _ => none
def anyB : List PyData → Option D
  | [.list xs] => (truths xs).map fun bs => .dat (.bool (bs.any id))
  | [.tuple xs] => (truths xs).map fun bs => .dat (.bool (bs.any id))
  | _ => none
def sortedB : List PyData → Option D
  | [.list xs] => match allInts xs with
    | some ns => some (.newL ((isort ns).map .int))
    | none => match allTups xs with
      | some nss => some (.newL ((tsort nss).map fun ns => .tuple (ns.map .int)))
      | none => match allLsts xs with
        | some nss => some (.newL ((tsort nss).map fun ns => .list (ns.map .int)))
        | none => (allTbls xs).map fun ts => .newL ((ttsort ts).map tblD)
  | [.tuple xs] => (allInts xs).map fun ns => .newL ((isort ns).map .int)
  | _ => none
def min2B : List PyData → Option D
  | [.int i, .int j] => some (.dat (.int (if j < i then j else i)))
  | _ => none
def max2B : List PyData → Option D
  | [.int i, .int j] => some (.dat (.int (if j > i then j else i)))
  | _ => none
/-- the least of some numbers -/
def leastI : List Int → Option Int
  | [] => none
  | a :: r => some (r.foldl (fun x y => if y < x then y else x) a)
def minLB : List PyData → Option D
  | [.list xs] => (allInts xs).bind fun ns => (leastI ns).map fun m => .dat (.int m)
  | [.tuple xs] => (allInts xs).bind fun ns => (leastI ns).map fun m => .dat (.int m)
  | _ => none
def biV : Bi → List PyData → Option D
  | .len => lenB
  | .abs => absB
  | .int => intB
  | .repr => reprB
  | .list => listB
  | .tuple => tupleB
  | .sum => sumB
  | .all => allB
  | .any => anyB
  | .sorted => sortedB
  | .min2 => min2B
  | .max2 => max2B
  | .minL => minLB

/-! ### dicts -/
def keyOk (t : Bool) : PyData → Bool
  | .int _ => !t
  | .str _ => !t
  | .tuple xs => t && xs.all isInt
  | _ => false

mutual
def same : PyData → PyData → Bool
  | .none, .none => true
  | .bool a, .bool b => a == b
  | .int a, .int b => decide (a = b)
  | .str a, .str b => decide (a = b)
  | .list a, .list b => sameAll a b
  | .tuple a, .tuple b => sameAll a b
  | _, _ => false
def sameAll : List PyData → List PyData → Bool
  | [], [] => true
  | x :: xs, y :: ys => same x y && sameAll xs ys
  | _, _ => false
end
def dGet (kvs : List (PyData × PyData)) (k : PyData) : Option PyData := (kvs.find? fun p => same p.1 k).map (·.2)
def dPut (k v : PyData) (kvs : List (PyData × PyData)) : List (PyData × PyData) :=
  if kvs.any fun p => same p.1 k then kvs.map fun p => if same p.1 k then (p.1, v) else p else kvs ++ [(k, v)]
def dPuts (kvs ps : List (PyData × PyData)) : List (PyData × PyData) := ps.foldl (fun acc p => dPut p.1 p.2 acc) kvs
/-- what stands in a display: key, value, key, value -/
def pairsOf : List PyData → Option (List (PyData × PyData))
  | [] => some []
  | k :: v :: r => if keyOk false k then (pairsOf r).map ((k, v) :: ·) else none
  | _ => none
/-- pairs of a list -/
def pairsL : List PyData → Option (List (PyData × PyData))
  | [] => some []
  | .tuple [k, v] :: r => if keyOk false k then (pairsL r).map ((k, v) :: ·) else none
  | _ => none
/-- the members of a list, each once, as they rise -/
def insU (x : Int) : List Int → List Int
  | [] => [x]
  | y :: l => if x < y then x :: y :: l else if x = y then y :: l else y :: insU x l
def sset (ns : List Int) : List Int := ns.foldr insU []
/-- pairs of a list, the keys tuples of whole numbers -/
def pairsT : List PyData → Option (List (PyData × PyData))
  | [] => some []
  | .tuple [k, v] :: r => if keyOk true k then (pairsT r).map ((k, v) :: ·) else none
  | _ => none

/-! ### the language -/
mutual
inductive Ex where
  | var (i : Nat)
  | con (d : PyData)
  | glob (x : Str) (d : PyData)
  | bin (op : Bop) (a b : Ex)
  | neg (a : Ex)
  | cmp (op : Cop) (a b : Ex)
  | chain (o1 o2 : Cop) (a b c : Ex)
  | isin (neg : Bool) (a b : Ex)
  | isinD (neg : Bool) (a b : Ex)
  | and (a b : Ex)
  | or (a b : Ex)
  | not (a : Ex)
  | ife (c a b : Ex)
  | tup (es : Exs)
  | lst (es : Exs)
  | emp (t : Bool)
  | idx (a b : Ex)
  | idxD (a b : Ex)
  | slc (a : Ex) (lo hi : Opt)
  | bi (f : Bi) (es : Exs)
  | lrng (a : Ex)
  | isi (a : Ex) (ts : List Ty) (par : Bool)
  | call (f : Nat) (es : Exs)
  | comp (elt : Ex) (tg : Tg) (it : It) (ifs : Opt) (own : List (Str × Nat))
  | cell (e : Ex)
  | app (a x : Ex)
  | pop (a : Ex)
  | popAt (a i : Ex)
  | index (a x : Ex)
  | rgv (tp : Bool) (lo : Opt) (hi : Ex)
  | dct (es : Exs)
  | dget (a k d : Ex)
  | dks (so : Bool) (a : Ex)
  | dof (a : Ex)
  | dofT (a : Ex)
  | sset (a : Ex)
  | upd (a b : Ex)
  | ext (a x : Ex)
  | rev (a : Ex)
  | compT (elt : Ex) (tg : Tg) (it : It) (ifs : Opt) (own : List (Str × Nat))
  | compO (elt : Ex) (tg : Tg) (e : Ex) (ifs : Opt) (own : List (Str × Nat))
  | idxT (a b : Ex)
  | count (a x : Ex)
  | insert (a i x : Ex)
  | dctT (k v : Ex)
  | dksT (so : Bool) (a : Ex)
  | exF (a : Ex) (f : Str)
  | exI (a : Ex) (cs : List Nat)
  | exV (a : Ex)
  | exN (ng : Bool) (a : Ex)
  | bad
inductive Exs where
  | nil
  | cons (e : Ex) (es : Exs)
inductive Opt where
  | none
  | some (e : Ex)
inductive Tg where
  | name (i : Nat)
  | tup (ts : Tgs)
  | sub (a b : Ex)
  | subD (a b : Ex)
inductive Tgs where
  | nil
  | cons (t : Tg) (ts : Tgs)
inductive It where
  | val (e : Ex)
  | rng1 (a : Ex)
  | rng2 (a b : Ex)
  | rng3 (a b c : Ex)
  | enum (e : Ex)
  | zip (es : Exs)
  | zip3 (es : Exs)
end
mutual
inductive St where
  | asg (t : Tg) (e : Ex)
  | par (i j : Nat) (es : Exs)
  | par3 (i j l : Nat) (es : Exs)
  | aug (a b : Ex) (op : Bop) (e : Ex)
  | expr (e : Ex)
  | ret (e : Ex)
  | ife (c : Ex) (a b : Sts)
  | for_ (t : Tg) (it : It) (body : Sts)
  | forE (t : Tg) (e : Ex) (body : Sts)
  | forT (t : Tg) (e : Ex) (body : Sts)
  | while_ (c : Ex) (body : Sts)
  | brk
  | cnt
  | pass
  | raise (c : Nat) (fs : List Str) (es : Exs)
  | tryA (t : Option Nat) (e : Ex) (c : Nat) (i : Option Nat) (suite : Sts)
  | bad
inductive Sts where
  | nil
  | cons (s : St) (r : Sts)
  | frz (i : Nat) (r : Sts)
end

def tgsLen : Tgs → Nat
  | .nil => 0
  | .cons _ ts => tgsLen ts + 1
/-! ### the evaluator -/
/-- a look at a value that changes nothing -/
def look : D → M PyData
  | .dat d => pure d
  | .newL xs => pure (.list xs)
  | .ref i => fun st => match st[i]? with
    | some (.lst xs) => .ok (.list xs) st
    | _ => .no
  | .newD _ _ => fail
  | .tree _ => fail
/-- a value comes to stand in data: a cell is a cell no more -/
def settle : D → M PyData
  | .dat d => pure d
  | .newL xs => pure (.list xs)
  | .ref i => fun st => match st[i]? with
    | some (.lst xs) => .ok (.list xs) (st.set i .dead)
    | _ => .no
  | .newD _ kvs => pure (.dict kvs)
  | .tree _ => fail
def lookDict : D → M (Bool × List (PyData × PyData))
  | .newD t kvs => pure (t, kvs)
  | .ref i => fun st => match st[i]? with
    | some (.dct t kvs) => .ok (t, kvs) st
    | _ => .no
  | _ => fail
/-- a look at a list that is no data -/
def lookN : D → M (List PyData)
  | .newL xs => pure xs
  | .dat (.tuple xs) => pure xs
  | .ref i => fun st => match st[i]? with
    | some (.lst xs) => .ok xs st
    | _ => .no
  | _ => fail
def rgD : Bool → List PyData → D
  | true, xs => .dat (.tuple xs)
  | false, xs => .newL xs
/-- a value stored at a name or handed on: what was just made becomes data -/
def keep : D → D
  | .newL xs => .dat (.list xs)
  | .newD _ kvs => .dat (.dict kvs)
  | d => d
def looks : List D → M (List PyData)
  | [] => pure []
  | d :: ds => do
    let x ← look d
    let xs ← looks ds
    pure (x :: xs)
def asInt (d : D) : M Int := do
  let x ← look d
  ofO (toInt x)
def asBool (d : D) : M Bool := do
  let x ← look d
  ofO (toBool x)
def newCell (d : D) : M D := match d with
  | .newL xs => fun st => .ok (.ref st.length) (st ++ [.lst xs])
  | .newD t kvs => fun st => .ok (.ref st.length) (st ++ [.dct t kvs])
  | _ => fail
def cellAt (i : Nat) : M (List PyData) := fun st => match st[i]? with
  | some (.lst xs) => .ok xs st
  | _ => .no
def refOf : D → M Nat
  | .ref i => pure i
  | _ => fail
def holdT : D → M Tr
  | .ref i => pure (.leaf i)
  | .tree ts => pure (.node ts)
  | _ => fail
def kidsOf : D → M (List Tr)
  | .tree ts => pure ts
  | _ => fail
def putCell (i : Nat) (c : Cell) : M Unit := fun st => .ok () (st.set i c)
def wipeE (ρ : Env) : List Nat → Env
  | [] => ρ
  | v :: vs => (wipeE ρ vs).set v none
def rngL (lo : Int) : Nat → List PyData
  | 0 => []
  | n + 1 => .int lo :: rngL (lo + 1) n
def intsBy (lo c : Int) : Nat → List PyData
  | 0 => []
  | n + 1 => .int lo :: intsBy (lo + c) c n
def small (i : Int) : Bool := decide (-1000000 ≤ i ∧ i ≤ 1000000)
def enumL (xs : List PyData) (k : Int) : List PyData := match xs with
  | [] => []
  | x :: r => .tuple [.int k, x] :: enumL r (k + 1)
def zipL : List PyData → List PyData → List PyData
  | x :: xs, y :: ys => .tuple [x, y] :: zipL xs ys
  | _, _ => []

def zip3L : List PyData → List PyData → List PyData → List PyData
  | x :: xs, y :: ys, z :: zs => .tuple [x, y, z] :: zip3L xs ys zs
  | _, _, _ => []
def seqZ : D → Option (List PyData)
  | .dat (.list x) => some x
  | .dat (.tuple x) => some x
  | _ => none
def zipD : List D → Option (List PyData)
  | [a, b] => match seqZ a, seqZ b with
    | some x, some y => some (zipL x y)
    | _, _ => none
  | _ => none
def zipD3 : List D → Option (List PyData)
  | [a, b, c] => match seqZ a, seqZ b, seqZ c with
    | some x, some y, some z => some (zip3L x y z)
    | _, _, _ => none
  | _ => none

/-- a list or a tuple that is data -/
def seqD : D → Option PyData
  | .dat (.list xs) => some (.list xs)
  | .dat (.tuple xs) => some (.tuple xs)
  | _ => none
/-- how many equal ones -/
def cntV : PyData → PyData → Option Nat
  | .list xs, v => if shal 60 v && shalAll 60 xs then some (xs.countP fun z => PyData.eqv z v) else none
  | .tuple xs, v => if shal 60 v && shalAll 60 xs then some (xs.countP fun z => PyData.eqv z v) else none
  | _, _ => none
/-- the exception in a cell -/
def excAt (i : Nat) : M Exc := fun st => match st[i]? with
  | some (.exc x) => .ok x st
  | _ => .no
/-- whether a class is another one, or under it: class 0 is the base -/
def subC (c d : Nat) : Bool := decide (d = 0) || decide (c = d)
/-- whether a value is None: a value at a name, an exception too -/
def isNV : D → M Bool
  | .dat d => pure (isNone d)
  | .ref i => fun st => match st[i]? with
    | some (.exc _) => .ok false st
    | _ => .no
  | _ => fail
/-- the first place of an equal one -/
def ixV : PyData → PyData → Option Nat
  | .list xs, v => if shal 60 v && shalAll 60 xs then xs.findIdx? fun z => PyData.eqv z v else none
  | .tuple xs, v => if shal 60 v && shalAll 60 xs then xs.findIdx? fun z => PyData.eqv z v else none
  | _, _ => none

structure Ctx where
  call : Nat → List D → M D
  fuel : Nat

/-- a comprehension's turns -/
def lcGo {α β : Type} (turn : α → M (Option β)) : List α → List β → M (List β)
  | [], acc => pure acc
  | x :: r, acc => do
    let o ← turn x
    match o with
    | some y => do
      guardB (decide (acc.length < LIM))
      lcGo turn r (acc ++ [y])
    | none => lcGo turn r acc

mutual
def evE (C : Ctx) : Ex → Env → M D
  | .var i, ρ => ofO (match ρ[i]? with
    | some (some d) => some d
    | _ => none)
  | .con d, _ => pure (.dat d)
  | .glob _ d, _ => pure (.dat d)
  | .bin op a b, ρ => do
    let x ← evE C a ρ
    let y ← evE C b ρ
    let u ← look x
    let v ← look y
    ofO (bopV op u v)
  | .neg a, ρ => do
    let x ← evE C a ρ
    let i ← asInt x
    pure (.dat (.int (-i)))
  | .cmp op a b, ρ => do
    let x ← evE C a ρ
    let y ← evE C b ρ
    let u ← look x
    let v ← look y
    ofO ((copV op u v).map fun b => .dat (.bool b))
  | .chain o1 o2 a b c, ρ => do
    let x ← evE C a ρ
    let y ← evE C b ρ
    let u ← look x
    let v ← look y
    let r ← ofO (copV o1 u v)
    match r with
    | true => do
      let z ← evE C c ρ
      let v' ← look y
      let w ← look z
      let r' ← ofO (copV o2 v' w)
      pure (.dat (.bool r'))
    | false => pure (.dat (.bool false))
  | .isin ng a b, ρ => do
    let x ← evE C a ρ
    let y ← evE C b ρ
    let u ← look x
    let v ← look y
    ofO (((inV u v).map fun b => if ng then !b else b).map fun b => .dat (.bool b))
  | .isinD ng a b, ρ => do
    let x ← evE C a ρ
    let y ← evE C b ρ
    let u ← look x
    let d ← lookDict y
    guardB (keyOk d.1 u)
    pure (.dat (.bool (if ng then !(dGet d.2 u).isSome else (dGet d.2 u).isSome)))
  | .and a b, ρ => do
    let x ← evE C a ρ
    let k ← asBool x
    match k with
    | true => evE C b ρ
    | false => pure (.dat (.bool false))
  | .or a b, ρ => do
    let x ← evE C a ρ
    let k ← asBool x
    match k with
    | true => pure (.dat (.bool true))
    | false => evE C b ρ
  | .not a, ρ => do
    let x ← evE C a ρ
    let k ← asBool x
    pure (.dat (.bool (!k)))
  | .ife c a b, ρ => do
    let x ← evE C c ρ
    let k ← asBool x
    match k with
    | true => evE C a ρ
    | false => evE C b ρ
  | .tup es, ρ => do
    let xs ← evEs C es ρ
    guardB (decide (xs.length ≤ LIM))
    pure (.dat (.tuple xs))
  | .lst es, ρ => do
    let xs ← evEs C es ρ
    guardB (decide (xs.length ≤ LIM))
    pure (.newL xs)
  | .emp t, _ => pure (.newD t [])
  | .idx a b, ρ => do
    let x ← evE C a ρ
    let y ← evE C b ρ
    let u ← look x
    let v ← look y
    ofO ((idxV u v).map .dat)
  | .idxD a b, ρ => do
    let x ← evE C a ρ
    let y ← evE C b ρ
    let d ← lookDict x
    let v ← look y
    guardB (keyOk d.1 v)
    let r ← ofO (dGet d.2 v)
    pure (.dat r)
  | .slc a lo hi, ρ => do
    let x ← evE C a ρ
    let l ← evO C lo ρ
    let h ← evO C hi ρ
    let u ← look x
    ofO (cutV u l h)
  | .bi f es, ρ => do
    let xs ← evAs C es ρ
    let us ← looks xs
    ofO (biV f us)
  | .lrng a, ρ => do
    let x ← evE C a ρ
    let i ← asInt x
    guardB (small i)
    pure (.newL (rngL 0 i.toNat))
  | .isi a ts _, ρ => do
    let x ← evE C a ρ
    let u ← look x
    pure (.dat (.bool (ts.any fun t => isiV t u)))
  | .call f es, ρ => do
    let xs ← evAs C es ρ
    C.call f xs
  | .comp elt tg it ifs own, ρ => do
    let xs ← evIt C it ρ
    let ys ← lcGo (fun x => noX do
      let ρ' ← evTg C tg (.dat x) (wipeE ρ (own.map (·.2)))
      let k ← evIf C ifs ρ'
      match k with
      | true => do
        let y ← evE C elt ρ'
        let z ← settle y
        pure (some z)
      | false => pure none) xs []
    pure (.newL ys)
  | .compT elt tg it ifs own, ρ => do
    let xs ← evIt C it ρ
    let ys ← lcGo (fun x => noX do
      let ρ' ← evTg C tg (.dat x) (wipeE ρ (own.map (·.2)))
      let k ← evIf C ifs ρ'
      match k with
      | true => do
        let y ← evE C elt ρ'
        let z ← holdT y
        pure (some z)
      | false => pure none) xs []
    pure (.tree ys)
  | .compO elt tg e ifs own, ρ => do
    let ts ← evE C e ρ >>= kidsOf
    let ys ← lcGo (fun t => noX do
      let ρ' ← evTg C tg (trD t) (wipeE ρ (own.map (·.2)))
      let k ← evIf C ifs ρ'
      match k with
      | true => do
        let y ← evE C elt ρ'
        let z ← settle y
        pure (some z)
      | false => pure none) ts []
    pure (.newL ys)
  | .idxT a b, ρ => do
    let x ← evE C a ρ
    let y ← evE C b ρ
    let ts ← kidsOf x
    let k ← asInt y
    let j ← ofO (ixPl ts.length k)
    let t ← ofO ts[j]?
    pure (trD t)
  | .cell e, ρ => do
    let x ← evE C e ρ
    newCell x
  | .app a x, ρ => do
    let p ← evE C a ρ
    let i ← refOf p
    let _ ← cellAt i
    let y ← evE C x ρ
    let z ← settle y
    let xs ← cellAt i
    guardB (decide (xs.length < LIM))
    putCell i (.lst (xs ++ [z]))
    pure (.dat .none)
  | .pop a, ρ => do
    let p ← evE C a ρ
    let i ← refOf p
    let xs ← cellAt i
    let y ← ofO xs.getLast?
    putCell i (.lst xs.dropLast)
    pure (.dat y)
  | .popAt a b, ρ => do
    let p ← evE C a ρ
    let i ← refOf p
    let _ ← cellAt i
    let y ← evE C b ρ
    let k ← asInt y
    let xs ← cellAt i
    guardB (decide (xs.length ≤ LIM))
    let j ← ofO (ixPl xs.length k)
    let z ← ofO xs[j]?
    putCell i (.lst (xs.eraseIdx j))
    pure (.dat z)
  | .index a b, ρ => do
    let x ← evE C a ρ
    let u ← ofO (seqD x)
    let y ← evE C b ρ
    let v ← look y
    ofO ((ixV u v).map fun j => .dat (.int (j : Nat)))
  | .rgv tp lo hi, ρ => do
    let l ← evO C lo ρ
    let y ← evE C hi ρ
    let j ← asInt y
    guardB (small (l.getD 0) && small j)
    pure (rgD tp (rngL (l.getD 0) (j - l.getD 0).toNat))
  | .dct es, ρ => do
    let xs ← evEs C es ρ
    guardB (decide (xs.length ≤ 30))
    let kvs ← ofO (pairsOf xs)
    pure (.newD false (dPuts [] kvs))
  | .dget a k d, ρ => do
    let x ← evE C a ρ
    let i ← refOf x
    let c0 ← lookDict x
    guardB (!c0.1)
    let y ← evE C k ρ
    let z ← evE C d ρ
    let c ← lookDict x
    let u ← look y
    let v ← look z
    guardB ((!c.1) && keyOk c.1 u && shal 0 v && decide (i = i))
    pure (.dat ((dGet c.2 u).getD v))
  | .dks so a, ρ => do
    let x ← evE C a ρ
    let c ← lookDict x
    guardB (!c.1)
    match so with
    | true => do
      let ns ← ofO (allInts (c.2.map (·.1)))
      guardB (decide (ns.length < 64))
      pure (.newL ((isort ns).map .int))
    | false => pure (.newL (c.2.map (·.1)))
  | .dof a, ρ => do
    let x ← evE C a ρ
    let u ← look x
    match u with
    | .list xs => do
      let kvs ← ofO (pairsL xs)
      pure (.newD false (dPuts [] kvs))
    | _ => fail
  | .dofT a, ρ => do
    let x ← evE C a ρ
    let u ← look x
    match u with
    | .list xs => do
      let kvs ← ofO (pairsT xs)
      pure (.newD true (dPuts [] kvs))
    | _ => fail
  | .sset a, ρ => do
    let x ← evE C a ρ
    let u ← look x
    match u with
    | .list xs => do
      let ns ← ofO (allInts xs)
      guardB (decide (ns.length < 64))
      pure (.newL ((MP.sset ns).map .int))
    | _ => fail
  | .upd a x, ρ => do
    let p ← evE C a ρ
    let i ← refOf p
    let b ← lookDict (.ref i)
    guardB (!b.1)
    let y ← evE C x ρ
    let j ← refOf y
    let e ← lookDict (.ref j)
    let c ← lookDict (.ref i)
    guardB (!c.1 && !e.1 && decide (i ≠ j) && decide (c.2.length + e.2.length ≤ LIM))
    putCell i (.dct false (dPuts c.2 e.2))
    pure (.dat .none)
  | .ext a b, ρ => do
    let p ← evE C a ρ
    let i ← refOf p
    let _ ← cellAt i
    let y ← evE C b ρ
    let zs ← lookN y
    let xs ← cellAt i
    guardB (decide (xs.length + zs.length ≤ LIM))
    putCell i (.lst (xs ++ zs))
    pure (.dat .none)
  | .rev a, ρ => do
    let x ← evE C a ρ
    let u ← look x
    match u with
    | .list xs => pure (.newL xs.reverse)
    | .tuple xs => pure (.dat (.tuple xs.reverse))
    | _ => fail
  | .count a b, ρ => do
    let x ← evE C a ρ
    let u ← ofO (seqD x)
    let y ← evE C b ρ
    let v ← look y
    ofO ((cntV u v).map fun j => .dat (.int (j : Nat)))
  | .insert a b x, ρ => do
    let p ← evE C a ρ
    let i ← refOf p
    let _ ← cellAt i
    let y ← evE C b ρ
    let k ← asInt y
    let z ← evE C x ρ
    let u ← settle z
    let xs ← cellAt i
    guardB (decide (xs.length < LIM) && small k && decide (0 ≤ k))
    putCell i (.lst (xs.take k.toNat ++ [u] ++ xs.drop k.toNat))
    pure (.dat .none)
  | .dctT k v, ρ => do
    let x ← evE C k ρ
    let u ← settle x
    guardB (keyOk true u)
    let y ← evE C v ρ
    let z ← settle y
    pure (.newD true [(u, z)])
  | .dksT so a, ρ => do
    let x ← evE C a ρ
    let c ← lookDict x
    guardB c.1
    match so with
    | true => do
      let nss ← ofO (allTups (c.2.map (·.1)))
      pure (.newL ((tsort nss).map fun ns => .tuple (ns.map .int)))
    | false => pure (.newL (c.2.map (·.1)))
  | .exF a f, ρ => do
    let x ← evE C a ρ
    let i ← refOf x
    let e ← excAt i
    let d ← ofO (e.fs.lookup f)
    pure (.dat d)
  | .exI a cs, ρ => do
    let x ← evE C a ρ
    let i ← refOf x
    let e ← excAt i
    pure (.dat (.bool (cs.any (subC e.cls))))
  | .exV a, ρ => do
    let x ← evE C a ρ
    let i ← refOf x
    let _ ← excAt i
    pure (.dat (.bool true))
  | .exN ng a, ρ => do
    let x ← evE C a ρ
    let b ← isNV x
    pure (.dat (.bool (if ng then !b else b)))
  | .bad, _ => fail
/-- items of a display -/
def evEs (C : Ctx) : Exs → Env → M (List PyData)
  | .nil, _ => pure []
  | .cons e es, ρ => do
    let x ← evE C e ρ
    let u ← settle x
    let us ← evEs C es ρ
    pure (u :: us)
/-- arguments -/
def evAs (C : Ctx) : Exs → Env → M (List D)
  | .nil, _ => pure []
  | .cons e es, ρ => do
    let x ← evE C e ρ
    let us ← evAs C es ρ
    pure (keep x :: us)
def evO (C : Ctx) : Opt → Env → M (Option Int)
  | .none, _ => pure none
  | .some e, ρ => do
    let x ← evE C e ρ
    let i ← asInt x
    pure (some i)
def evIf (C : Ctx) : Opt → Env → M Bool
  | .none, _ => pure true
  | .some e, ρ => do
    let x ← evE C e ρ
    asBool x
def evTg (C : Ctx) : Tg → D → Env → M Env
  | .name i, d, ρ => pure (ρ.set i (some (keep d)))
  | .tup ts, d, ρ => do
    let u ← look d
    match u with
    | .tuple xs => do
      guardB (decide (xs.length = tgsLen ts))
      evTgs C ts xs ρ
    | _ => fail
  | .sub a b, d, ρ => do
    let p ← evE C a ρ
    let y ← evE C b ρ
    let k ← asInt y
    let z ← settle d
    let i ← refOf p
    let xs ← cellAt i
    let j ← ofO (ixPl xs.length k)
    putCell i (.lst (xs.set j z))
    pure ρ
  | .subD a b, d, ρ => do
    let p ← evE C a ρ
    let y ← evE C b ρ
    let k ← look y
    let z ← settle d
    let c ← lookDict p
    let i ← refOf p
    guardB (keyOk c.1 k && decide (c.2.length < LIM))
    putCell i (.dct c.1 (dPut k z c.2))
    pure ρ
def evTgs (C : Ctx) : Tgs → List PyData → Env → M Env
  | .nil, [], ρ => pure ρ
  | .cons t ts, x :: xs, ρ => do
    let ρ' ← evTg C t (.dat x) ρ
    evTgs C ts xs ρ'
  | _, _, _ => fail
def evIt (C : Ctx) : It → Env → M (List PyData)
  | .val e, ρ => do
    let x ← evE C e ρ
    match keep x with
    | .dat (.list xs) => pure xs
    | .dat (.tuple xs) => pure xs
    | _ => fail
  | .rng1 a, ρ => do
    let x ← evE C a ρ
    let i ← asInt x
    guardB (small i)
    pure (rngL 0 i.toNat)
  | .rng2 a b, ρ => do
    let x ← evE C a ρ
    let y ← evE C b ρ
    let i ← asInt x
    let j ← asInt y
    guardB (small i && small j)
    pure (rngL i (j - i).toNat)
  | .rng3 a b c, ρ => do
    let x ← evE C a ρ
    let y ← evE C b ρ
    let z ← evE C c ρ
    let i ← asInt x
    let j ← asInt y
    let k ← asInt z
    guardB (small i && small j && decide (k = -1))
    pure (intsBy i (-1) (i - j).toNat)
  | .enum e, ρ => do
    let x ← evE C e ρ
    match keep x with
    | .dat (.list xs) => pure (enumL xs 0)
    | .dat (.tuple xs) => pure (enumL xs 0)
    | _ => fail
  | .zip es, ρ => do
    let xs ← evAs C es ρ
    ofO (zipD xs)
  | .zip3 es, ρ => do
    let xs ← evAs C es ρ
    ofO (zipD3 xs)
end

inductive Out where
  | next (ρ : Env)
  | ret (d : D)
  | brk (ρ : Env)
  | cnt (ρ : Env)

def forGo {α : Type} (turn : α → Env → M Out) : List α → Env → M Out
  | [], ρ => pure (.next ρ)
  | x :: r, ρ => do
    let o ← turn x ρ
    match o with
    | .next ρ' => forGo turn r ρ'
    | .cnt ρ' => forGo turn r ρ'
    | .brk ρ' => pure (.next ρ')
    | .ret d => pure (.ret d)
/-- the numbered items of a cell's list, as it stands at each turn -/
def liveGo (turn : PyData → Env → M Out) (i : Nat) : Nat → Nat → Env → M Out
  | 0, _, _ => fail
  | n + 1, k, ρ => do
    let ys ← cellAt i
    match ys[k]? with
    | none => pure (.next ρ)
    | some y => do
      let o ← turn (.tuple [.int (k : Nat), y]) ρ
      match o with
      | .next ρ' => liveGo turn i n (k + 1) ρ'
      | .cnt ρ' => liveGo turn i n (k + 1) ρ'
      | .brk ρ' => pure (.next ρ')
      | .ret d => pure (.ret d)
def enumGo (turn : PyData → Env → M Out) (n : Nat) (d : D) (ρ : Env) : M Out := match d with
  | .ref i => liveGo turn i n 0 ρ
  | .dat (.list xs) => forGo turn (enumL xs 0) ρ
  | .dat (.tuple xs) => forGo turn (enumL xs 0) ρ
  | _ => fail
def whileGo (c : Env → M Bool) (body : Env → M Out) : Nat → Env → M Out
  | 0, _ => fail
  | n + 1, ρ => do
    let k ← c ρ
    match k with
    | false => pure (.next ρ)
    | true => do
      let o ← body ρ
      match o with
      | .next ρ' => whileGo c body n ρ'
      | .cnt ρ' => whileGo c body n ρ'
      | .brk ρ' => pure (.next ρ')
      | .ret d => pure (.ret d)

/-- the cell at a name becomes data -/
def frzE (i : Nat) (ρ : Env) : M Env := match ρ[i]? with
  | some (some (.ref j)) => fun st => match st[j]? with
    | some (.lst xs) => .ok (ρ.set i (some (.dat (.list xs)))) (st.set j .dead)
    | _ => .no
  | _ => fail

def bindO (i : Option Nat) (d : D) (ρ : Env) : Env := match i with
  | some j => ρ.set j (some d)
  | none => ρ
def raiseX {α : Type} (x : Exc) : M α := fun st => .exc x st
/-- behind an except suite its name is none -/
def unO (i : Option Nat) (o : Out) : Out := match i with
  | none => o
  | some j => match o with
    | .next ρ => .next (ρ.set j none)
    | .cnt ρ => .cnt (ρ.set j none)
    | .brk ρ => .brk (ρ.set j none)
    | .ret d => .ret d
def unE (i : Option Nat) (m : M Out) : M Out := do
  let o ← noX m
  pure (unO i o)
mutual
def evSt (C : Ctx) : St → Env → M Out
  | .asg t e, ρ => do
    let x ← evE C e ρ
    let ρ' ← noX (evTg C t x ρ)
    pure (.next ρ')
  | .par i j es, ρ => do
    let xs ← evAs C es ρ
    match xs with
    | [x, y] => pure (.next ((ρ.set i (some x)).set j (some y)))
    | _ => fail
  | .par3 i j l es, ρ => do
    let xs ← evAs C es ρ
    match xs with
    | [x, y, z] => pure (.next (((ρ.set i (some x)).set j (some y)).set l (some z)))
    | _ => fail
  | .aug a b op e, ρ => do
    let p ← evE C a ρ
    let y ← evE C b ρ
    let k ← asInt y
    let i ← refOf p
    let xs ← cellAt i
    guardB (small k)
    let j ← ofO (ixPl xs.length k)
    let old ← ofO xs[j]?
    let z ← evE C e ρ
    let u ← look z
    let r ← ofO (augV op old u)
    let xs' ← cellAt i
    let j' ← ofO (ixPl xs'.length k)
    putCell i (.lst (xs'.set j' r))
    pure (.next ρ)
  | .expr e, ρ => do
    let _ ← evE C e ρ
    pure (.next ρ)
  | .ret e, ρ => do
    let x ← evE C e ρ
    pure (.ret x)
  | .ife c a b, ρ => do
    let x ← evE C c ρ
    let k ← asBool x
    match k with
    | true => evSts C a ρ
    | false => evSts C b ρ
  | .for_ t it body, ρ => do
    let xs ← evIt C it ρ
    forGo (fun x ρ' => do
      let ρ2 ← noX (evTg C t (.dat x) ρ')
      evSts C body ρ2) xs ρ
  | .forE t e body, ρ => do
    let x ← evE C e ρ
    enumGo (fun x ρ' => do
      let ρ2 ← noX (evTg C t (.dat x) ρ')
      evSts C body ρ2) C.fuel (keep x) ρ
  | .forT t e body, ρ => do
    let ts ← evE C e ρ >>= kidsOf
    forGo (fun y ρ' => do
      let ρ2 ← noX (evTg C t (trD y) ρ')
      evSts C body ρ2) ts ρ
  | .while_ c body, ρ => whileGo (fun ρ' => do
      let x ← evE C c ρ'
      asBool x) (fun ρ' => evSts C body ρ') C.fuel ρ
  | .brk, ρ => pure (.brk ρ)
  | .cnt, ρ => pure (.cnt ρ)
  | .pass, ρ => pure (.next ρ)
  | .raise c fs es, ρ => do
    let xs ← evEs C es ρ
    guardB (fs.isEmpty || decide (xs.length = fs.length ∧ fs.length ≤ 100))
    raiseX ⟨c, fs.zip xs⟩
  | .tryA t e c i suite, ρ => fun st => match evE C e ρ st with
    | .ok d st' => .ok (.next (bindO t (keep d) ρ)) st'
    | .exc x st' => if subC x.cls c then unE i (evSts C suite (bindO i (.ref st'.length) ρ)) (st' ++ [.exc x]) else .no
    | .no => .no
  | .bad, _ => fail
def evSts (C : Ctx) : Sts → Env → M Out
  | .nil, ρ => pure (.next ρ)
  | .cons s r, ρ => do
    let o ← evSt C s ρ
    match o with
    | .next ρ' => evSts C r ρ'
    | o => pure o
  | .frz i r, ρ => do
    let ρ' ← frzE i ρ
    evSts C r ρ'
end

structure Def where
  name : Str
  ps : List Str
  names : List Str
  body : Sts

/-- what a call hands back: its own cells are gone -/
def leave (n : Nat) : D → M D
  | .ref i => if i < n then fun st => .ok (.ref i) (st.take n) else fun st => match st[i]? with
    | some (.lst xs) => .ok (.newL xs) (st.take n)
    | some (.dct t kvs) => .ok (.newD t kvs) (st.take n)
    | _ => .no
  | .tree _ => fail
  | d => fun st => .ok d (st.take n)
def cutX (n : Nat) (m : M D) : M D := fun st => match m st with
  | .exc x st' => .exc x (st'.take n)
  | r => r
def runDef (C : Ctx) (d : Def) (args : List D) : M D := fun st =>
  if args.length = d.ps.length then
    cutX st.length (do
      let o ← evSts C d.body (args.map some ++ List.replicate (d.names.length - args.length) none)
      match o with
      | .ret x => leave st.length x
      | .next _ => leave st.length (.dat .none)
      | _ => fail) st
  else .no
def callF (P : List Def) (w : Nat) : Nat → Nat → List D → M D
  | 0, _, _ => fail
  | k + 1, f, args => match P[f]? with
    | some d => runDef ⟨callF P w k, w⟩ d args
    | none => fail
end MP
end MPy

section MRel
set_option Elab.async false
set_option linter.all false
set_option maxRecDepth 100000
set_option autoImplicit false
/-! MRel: how values and stores of MPy lie in the hand layer's abstract heap; weakest preconditions of MPy's runs. -/
namespace MP
open PySem PySem.Spec PyProof.Rows L2

/-! ### runs -/
def wp {α : Type} (Xp : Exc → Store → Prop) (m : M α) (st : Store) (P : α → Store → Prop) : Prop := match m st with
  | .ok a st' => P a st'
  | .exc x st' => Xp x st'
  | .no => False
section
variable {Xp : Exc → Store → Prop} {α β : Type} {m : M α} {k : α → M β} {st : Store} {P P' : α → Store → Prop} {R : β → Store → Prop}
theorem wp_mono (h : wp Xp m st P) (i : ∀ a s, P a s → P' a s) : wp Xp m st P' := by
  unfold wp at h ⊢
  cases e : m st with
  | ok a s => rw [e] at h; exact i a s h
  | exc x s => rw [e] at h; exact h
  | no => rw [e] at h; exact h
theorem wp_mono2 {Xq : Exc → Store → Prop} (h : wp Xp m st P) (i : ∀ a s, P a s → P' a s) (j : ∀ x s, Xp x s → Xq x s) : wp Xq m st P' := by
  unfold wp at h ⊢
  cases e : m st with
  | ok a s => rw [e] at h; exact i a s h
  | exc x s => rw [e] at h; exact j x s h
  | no => rw [e] at h; exact h
theorem wp_bind : wp Xp (m >>= k) st R ↔ wp Xp m st fun a s => wp Xp (k a) s R := by
  unfold wp
  show (match M.bnd m k st with
    | .ok a st' => R a st'
    | .exc x st' => Xp x st'
    | .no => False) ↔ _
  unfold M.bnd
  cases e : m st with
  | ok a s => exact Iff.rfl
  | exc x s => exact Iff.rfl
  | no => exact Iff.rfl
theorem wp_pure {a : α} : wp Xp (pure a : M α) st P ↔ P a st := Iff.rfl
theorem wp_ofO {o : Option α} : wp Xp (ofO o) st P ↔ ∃ a, o = some a ∧ P a st := by
  cases o with
  | none => exact ⟨fun h => h.elim, fun ⟨_, e, _⟩ => nomatch e⟩
  | some a => exact ⟨fun h => ⟨a, rfl, h⟩, fun ⟨b, e, h⟩ => by cases e; exact h⟩
theorem wp_noX : wp Xp (noX m) st P ↔ wp (fun _ _ => False) m st P := by
  unfold wp noX
  cases e : m st <;> rfl
theorem wp_anyX (h : wp (fun _ _ => False) m st P) : wp Xp m st P := wp_mono2 h (fun _ _ z => z) fun _ _ z => z.elim
theorem wp_guard {b : Bool} {P : Unit → Store → Prop} : wp Xp (guardB b) st P ↔ b = true ∧ P () st := by
  cases b with
  | true => exact ⟨fun h => ⟨rfl, h⟩, fun h => h.2⟩
  | false => exact ⟨fun h => h.elim, fun h => nomatch h.1⟩
end

section
variable {Xp : Exc → Store → Prop} {st : Store} {i : Nat}
theorem wp_lookR {P : PyData → Store → Prop} : wp Xp (look (.ref i)) st P ↔ ∃ xs, st[i]? = some (.lst xs) ∧ P (.list xs) st := by
  unfold wp look
  cases q : st[i]? with
  | none => simp [q]
  | some c => cases c <;> simp [q]
theorem wp_settleR {P : PyData → Store → Prop} : wp Xp (settle (.ref i)) st P ↔ ∃ xs, st[i]? = some (.lst xs) ∧ P (.list xs) (st.set i .dead) := by
  unfold wp settle
  cases q : st[i]? with
  | none => simp [q]
  | some c => cases c <;> simp [q]
theorem wp_lookDR {P : Bool × List (PyData × PyData) → Store → Prop} : wp Xp (lookDict (.ref i)) st P ↔ ∃ t kvs, st[i]? = some (.dct t kvs) ∧ P (t, kvs) st := by
  unfold wp lookDict
  cases q : st[i]? with
  | none => simp [q]
  | some c =>
    cases c with
    | dct t kvs =>
      simp only [q]
      exact ⟨fun h => ⟨t, kvs, rfl, h⟩, fun ⟨t', k', e, h⟩ => by cases e; exact h⟩
    | _ => simp [q]
theorem wp_cellAt {P : List PyData → Store → Prop} : wp Xp (cellAt i) st P ↔ ∃ xs, st[i]? = some (.lst xs) ∧ P xs st := by
  unfold wp cellAt
  cases q : st[i]? with
  | none => simp [q]
  | some c => cases c <;> simp [q]
theorem wp_putCell {c : Cell} {P : Unit → Store → Prop} : wp Xp (putCell i c) st P ↔ P () (st.set i c) := Iff.rfl
end

/-! ### data in the abstract heap -/
def keyD : Key → PyData
  | .inl i => .int i
  | .inr x => .str x
/-- a tuple of the run's own making: its object has no dict -/
def StT (H : Hp) (a : Addr) (vs : List V) : Prop := ∃ o : Obj, H a = some (.frz o (.tup vs)) ∧ o.dict = none
theorem StT.rd {H : Hp} {a : Addr} {vs : List V} (h : StT H a vs) : Rd H a (.tup vs) := .inr ⟨h.choose, h.choose_spec.1⟩
theorem StT.sq {K : PySem.W.Frag} {H : Hp} {a : Addr} {vs : List V} (h : StT H a vs) : SqT K H a vs := .inl h.rd
theorem StT.new {H : Hp} {a : Addr} {vs : List V} {o : Obj} (h : o.dict = none) : StT (upd H a (.frz o (.tup vs))) a vs := ⟨o, upd_same, h⟩
theorem StT.mono {H H' : Hp} {a : Addr} {vs : List V} (h : StT H a vs) (hh : ∀ o, H a = some o → H' a = some o) : StT H' a vs := ⟨h.choose, hh _ h.choose_spec.1, h.choose_spec.2⟩
/-- the hash of a tuple of whole numbers -/
def ihash (k : List Int) : Int := reduceHash (Builtin.Tuple.tupleHashOf (k.map hashInt))
abbrev XR3 : List (List Int × Addr × V) → List (List Int × Addr × Value) → Prop := Paired fun p q => p.1 = q.1 ∧ p.2.1 = q.2.1 ∧ RelV p.2.2 q.2.2
def dxP (a : Addr) (ks : List (List Int × Addr × V)) (h : Heap) : Prop := ks.length ≤ sizeLine ∧ (a == sysModules) = false ∧ ∃ xs : List (List Int × Addr × Value), XR3 ks xs ∧
  ∃ o es ep, h.get? a = some o ∧ o.ExactDict ∧ o.data = .dict es ep ∧ es.toList = xs.map (fun x => ⟨ihash x.1, .ref x.2.1, x.2.2⟩) ∧ (xs.map (·.1)).Nodup
/-- a dict whose keys are tuples of whole numbers -/
def dxO (a : Addr) (ks : List (List Int × Addr × V)) : HO := .ext (dxP a ks)
mutual
inductive Dv (I : Addr → Prop) (H : Hp) : V → PyData → Prop
  | non : Dv I H .non .none
  | bl (b : Bool) : Dv I H (.bl b) (.bool b)
  | int (i : Int) : Dv I H (.int i) (.int i)
  | str (x : Str) : Dv I H (.str x) (.str x)
  | lst {a : Addr} {vs : List V} {ds : List PyData} : I a → Rd H a (.lst vs) → DvAll I H vs ds → Dv I H (.ref a) (.list ds)
  | tup {a : Addr} {vs : List V} {ds : List PyData} : I a → StT H a vs → DvAll I H vs ds → Dv I H (.ref a) (.tuple ds)
  | dctK {a : Addr} {ks : List (Key × V)} {kvs : List (PyData × PyData)} : I a → H a = some (.dK ks) → DvKv I H ks kvs → Dv I H (.ref a) (.dict kvs)
  | dctT {a : Addr} {ks : List (List Int × Addr × V)} {kvs : List (PyData × PyData)} : I a → H a = some (dxO a ks) → DvKt I H ks kvs → Dv I H (.ref a) (.dict kvs)
inductive DvAll (I : Addr → Prop) (H : Hp) : List V → List PyData → Prop
  | nil : DvAll I H [] []
  | cons {v : V} {vs : List V} {d : PyData} {ds : List PyData} : Dv I H v d → DvAll I H vs ds → DvAll I H (v :: vs) (d :: ds)
inductive DvKv (I : Addr → Prop) (H : Hp) : List (Key × V) → List (PyData × PyData) → Prop
  | nil : DvKv I H [] []
  | cons {k : Key} {v : V} {vs : List (Key × V)} {d : PyData} {ds : List (PyData × PyData)} : Dv I H v d → DvKv I H vs ds → DvKv I H ((k, v) :: vs) ((keyD k, d) :: ds)
inductive DvKt (I : Addr → Prop) (H : Hp) : List (List Int × Addr × V) → List (PyData × PyData) → Prop
  | nil : DvKt I H [] []
  | cons {k : List Int} {b : Addr} {v : V} {vs : List (List Int × Addr × V)} {d : PyData} {ds : List (PyData × PyData)} : I b → StT H b (k.map V.int) → Dv I H v d → DvKt I H vs ds → DvKt I H ((k, b, v) :: vs) ((.tuple (k.map .int), d) :: ds)
end
section
variable {I I' : Addr → Prop} {H H' : Hp}
mutual
theorem Dv.mono (hi : ∀ a, I a → I' a) (hh : ∀ a o, I a → H a = some o → H' a = some o) : ∀ {v : V} {d : PyData}, Dv I H v d → Dv I' H' v d
  | _, _, .non => .non
  | _, _, .bl b => .bl b
  | _, _, .int i => .int i
  | _, _, .str x => .str x
  | _, _, .lst i r h => .lst (hi _ i) (r.elim (fun z => .inl (hh _ _ i z)) fun ⟨o, z⟩ => .inr ⟨o, hh _ _ i z⟩) (DvAll.mono hi hh h)
  | _, _, .tup i r h => .tup (hi _ i) (r.mono fun o e => hh _ o i e) (DvAll.mono hi hh h)
  | _, _, .dctK i r h => .dctK (hi _ i) (hh _ _ i r) (DvKv.mono hi hh h)
  | _, _, .dctT i r h => .dctT (hi _ i) (hh _ _ i r) (DvKt.mono hi hh h)
theorem DvAll.mono (hi : ∀ a, I a → I' a) (hh : ∀ a o, I a → H a = some o → H' a = some o) : ∀ {v : List V} {d : List PyData}, DvAll I H v d → DvAll I' H' v d
  | _, _, .nil => .nil
  | _, _, .cons x h => .cons (Dv.mono hi hh x) (DvAll.mono hi hh h)
theorem DvKv.mono (hi : ∀ a, I a → I' a) (hh : ∀ a o, I a → H a = some o → H' a = some o) : ∀ {v : List (Key × V)} {d : List (PyData × PyData)}, DvKv I H v d → DvKv I' H' v d
  | _, _, .nil => .nil
  | _, _, .cons x h => .cons (Dv.mono hi hh x) (DvKv.mono hi hh h)
theorem DvKt.mono (hi : ∀ a, I a → I' a) (hh : ∀ a o, I a → H a = some o → H' a = some o) : ∀ {v : List (List Int × Addr × V)} {d : List (PyData × PyData)}, DvKt I H v d → DvKt I' H' v d
  | _, _, .nil => .nil
  | _, _, .cons i r x h => .cons (hi _ i) (r.mono fun o e => hh _ o i e) (Dv.mono hi hh x) (DvKt.mono hi hh h)
end
theorem DvAll.length : ∀ {vs : List V} {ds : List PyData}, DvAll I H vs ds → vs.length = ds.length
  | _, _, .nil => rfl
  | _, _, .cons _ h => by rw [List.length_cons, List.length_cons, DvAll.length h]
theorem DvAll.get : ∀ {vs : List V} {ds : List PyData} {i : Nat} {d : PyData}, DvAll I H vs ds → ds[i]? = some d → ∃ v, vs[i]? = some v ∧ Dv I H v d
  | _, _, _, _, .nil, e => by simp at e
  | _, _, 0, _, .cons x _, e => by simp at e; subst e; exact ⟨_, rfl, x⟩
  | _, _, i + 1, d, .cons _ h, e => by
    obtain ⟨v, h1, h2⟩ := DvAll.get (i := i) (d := d) h (by simpa using e)
    exact ⟨v, by simpa using h1, h2⟩
theorem DvAll.append : ∀ {vs us : List V} {ds es : List PyData}, DvAll I H vs ds → DvAll I H us es → DvAll I H (vs ++ us) (ds ++ es)
  | _, _, _, _, .nil, s => s
  | _, _, _, _, .cons r t, s => .cons r (DvAll.append t s)
theorem DvAll.take : ∀ {vs : List V} {ds : List PyData} (n : Nat), DvAll I H vs ds → DvAll I H (vs.take n) (ds.take n)
  | _, _, 0, _ => .nil
  | _, _, _ + 1, .nil => .nil
  | _, _, n + 1, .cons r t => .cons r (DvAll.take n t)
theorem DvAll.drop : ∀ {vs : List V} {ds : List PyData} (n : Nat), DvAll I H vs ds → DvAll I H (vs.drop n) (ds.drop n)
  | _, _, 0, r => r
  | _, _, _ + 1, .nil => .nil
  | _, _, n + 1, .cons _ t => DvAll.drop n t
theorem DvAll.set {v : V} {d : PyData} (x : Dv I H v d) : ∀ {vs : List V} {ds : List PyData} (n : Nat), DvAll I H vs ds → DvAll I H (vs.set n v) (ds.set n d)
  | _, _, _, .nil => .nil
  | _, _, 0, .cons _ t => .cons x t
  | _, _, n + 1, .cons r t => .cons r (DvAll.set x n t)
theorem DvAll.erase : ∀ {vs : List V} {ds : List PyData} (n : Nat), DvAll I H vs ds → DvAll I H (vs.eraseIdx n) (ds.eraseIdx n)
  | _, _, _, .nil => .nil
  | _, _, 0, .cons _ t => t
  | _, _, n + 1, .cons r t => .cons r (DvAll.erase n t)
theorem DvAll.dropLast {vs : List V} {ds : List PyData} (h : DvAll I H vs ds) : DvAll I H vs.dropLast ds.dropLast := by
  rw [List.dropLast_eq_take, List.dropLast_eq_take, h.length]
  exact h.take _
theorem DvAll.flatRep {vs : List V} {ds : List PyData} (h : DvAll I H vs ds) : ∀ n, DvAll I H (List.replicate n vs).flatten (List.replicate n ds).flatten
  | 0 => .nil
  | n + 1 => by
    rw [List.replicate_succ, List.replicate_succ, List.flatten_cons, List.flatten_cons]
    exact h.append (DvAll.flatRep h n)
theorem DvAll.cut {vs : List V} {ds : List PyData} (h : DvAll I H vs ds) (lo hi : Option Int) : DvAll I H (L2.cutV vs lo hi) (MP.cut ds lo hi) := by
  have e : ∀ n d o, HT.sIx n d o = cutIx n d o := fun n d o => by cases o <;> rfl
  unfold L2.cutV MP.cut
  rw [e, e, h.length]
  exact (h.drop _).take _
theorem DvAll.ints : ∀ {vs : List V} {ds : List PyData} {ns : List Int}, DvAll I H vs ds → allInts ds = some ns → vs = ns.map V.int ∧ ds = ns.map PyData.int
  | _, _, _, .nil, e => by
    unfold allInts at e
    cases e
    exact ⟨rfl, rfl⟩
  | _, _, ns, .cons (ds := ds) x h, e => by
    cases x with
    | int i =>
      unfold allInts at e
      cases q : allInts ds with
      | none => rw [q] at e; cases e
      | some ms =>
        rw [q] at e
        cases e
        obtain ⟨h1, h2⟩ := DvAll.ints h q
        subst h1 h2
        exact ⟨rfl, rfl⟩
    | _ => unfold allInts at e; cases e
theorem DvAll.of_ints : ∀ (ns : List Int), DvAll I H (ns.map V.int) (ns.map PyData.int)
  | [] => .nil
  | n :: r => .cons (.int n) (DvAll.of_ints r)
mutual
theorem Dv.dp (K : PySem.W.Frag) : ∀ {v : V} {d : PyData}, Dv I H v d → d.plain = true → Dp K H v d
  | _, _, .non, _ => .non
  | _, _, .bl b, _ => .bl b
  | _, _, .int i, _ => .int i
  | _, _, .str x, _ => .str x
  | _, _, .lst _ r h, p => .lst (.inl r) (DvAll.dp K h (by simpa only [PyData.plain] using p))
  | _, _, .tup _ r h, p => .tup r.sq (DvAll.dp K h (by simpa only [PyData.plain] using p))
  | _, _, .dctK _ _ _, p => by simp only [PyData.plain] at p; cases p
  | _, _, .dctT _ _ _, p => by simp only [PyData.plain] at p; cases p
theorem DvAll.dp (K : PySem.W.Frag) : ∀ {v : List V} {d : List PyData}, DvAll I H v d → PyData.plainAll d = true → DpAll K H v d
  | _, _, .nil, _ => .nil
  | _, _, .cons x h, p => by
    simp only [PyData.plainAll, Bool.and_eq_true] at p
    exact .cons (Dv.dp K x p.1) (DvAll.dp K h p.2)
end
end
mutual
theorem shal_plain : ∀ (n : Nat) (d : PyData), shal n d = true → d.plain = true
  | _, .none, _ => by simp only [PyData.plain]
  | _, .bool _, _ => by simp only [PyData.plain]
  | _, .int _, _ => by simp only [PyData.plain]
  | _, .str _, _ => by simp only [PyData.plain]
  | 0, .list _, h => by simp only [shal] at h; cases h
  | 0, .tuple _, h => by simp only [shal] at h; cases h
  | n + 1, .list xs, h => by simp only [shal] at h; simp only [PyData.plain]; exact shalAll_plain n xs h
  | n + 1, .tuple xs, h => by simp only [shal] at h; simp only [PyData.plain]; exact shalAll_plain n xs h
  | 0, .dict _, h => by simp only [shal] at h; cases h
  | n + 1, .dict _, h => by simp only [shal] at h; cases h
theorem shalAll_plain : ∀ (n : Nat) (d : List PyData), shalAll n d = true → PyData.plainAll d = true
  | _, [], _ => by simp only [PyData.plainAll]
  | n, x :: xs, h => by
    simp only [shalAll, Bool.and_eq_true] at h
    simp only [PyData.plainAll, Bool.and_eq_true]
    exact ⟨shal_plain n x h.1, shalAll_plain n xs h.2⟩
end
mutual
theorem shal_depth : ∀ (n : Nat) (d : PyData), shal n d = true → d.depth ≤ n
  | n, .none, _ => by simp only [PyData.depth]; omega
  | n, .bool _, _ => by simp only [PyData.depth]; omega
  | n, .int _, _ => by simp only [PyData.depth]; omega
  | n, .str _, _ => by simp only [PyData.depth]; omega
  | 0, .list _, h => by simp only [shal] at h; cases h
  | 0, .tuple _, h => by simp only [shal] at h; cases h
  | n + 1, .list xs, h => by simp only [shal] at h; simp only [PyData.depth]; have := shalAll_depth n xs h; omega
  | n + 1, .tuple xs, h => by simp only [shal] at h; simp only [PyData.depth]; have := shalAll_depth n xs h; omega
  | 0, .dict _, h => by simp only [shal] at h; cases h
  | n + 1, .dict _, h => by simp only [shal] at h; cases h
theorem shalAll_depth : ∀ (n : Nat) (d : List PyData), shalAll n d = true → PyData.depthAll d ≤ n
  | n, [], _ => by simp only [PyData.depthAll]; omega
  | n, x :: xs, h => by
    simp only [shalAll, Bool.and_eq_true] at h
    simp only [PyData.depthAll]
    have h1 := shal_depth n x h.1
    have h2 := shalAll_depth n xs h.2
    omega
end

/-! ### the world between a store and an abstract heap -/
/-- where the cells lie; what is data (never written) -/
structure Wd where
  eta : List Addr
  im : Addr → Prop
def DictOk (I : Addr → Prop) (H : Hp) (a : Addr) (t : Bool) (kvs : List (PyData × PyData)) : Prop := match t with
  | false => ∃ ks, H a = some (.dK ks) ∧ DvKv I H ks kvs
  | true => ∃ ks, H a = some (dxO a ks) ∧ DvKt I H ks kvs
/-- where the classes of the program's own exceptions stand -/
class Cla where
  a : Nat → Addr
  ok : Nat → Bool
/-- at a: an exception of the class at C, with the dict d -/
def exb (a C : Addr) (d : Option Addr) : HO := .ext fun h => ∃ (oe : Obj) (vs : Array Value), h.get? a = some oe ∧ oe.cls = .ref C ∧ oe.dict = d ∧ oe.data = .fields vs
/-- an exception's fields -/
def FldR (I : Addr → Prop) (H : Hp) (d : Option Addr) (fs : List (Str × PyData)) : Prop :=
  (fs = [] ∧ d = none) ∨ ∃ (dd : Addr) (ks : List (Str × V)), d = some dd ∧ I dd ∧ H dd = some (.xd ks) ∧ ∀ f y, fs.lookup f = some y → ∃ v, ks.lookup f = some v ∧ Dv I H v y
theorem FldR.mono {I I' : Addr → Prop} {H H' : Hp} {d : Option Addr} {fs : List (Str × PyData)} (hi : ∀ a, I a → I' a) (hh : ∀ a o, I a → H a = some o → H' a = some o) (h : FldR I H d fs) : FldR I' H' d fs := by
  rcases h with h | ⟨dd, ks, e, i, z, q⟩
  · exact .inl h
  · exact .inr ⟨dd, ks, e, hi _ i, hh _ _ i z, fun f y l => let ⟨v, l', r⟩ := q f y l; ⟨v, l', r.mono hi hh⟩⟩
variable [Cla]
def CellOk (W : Wd) (H : Hp) (a : Addr) : Cell → Prop
  | .exc x => ¬ W.im a ∧ Cla.ok x.cls = true ∧ ∃ d, H a = some (exb a (Cla.a x.cls) d) ∧ FldR W.im H d x.fs
  | .lst xs => ¬ W.im a ∧ ∃ vs, H a = some (.lst vs) ∧ DvAll W.im H vs xs
  | .dct t kvs => ¬ W.im a ∧ DictOk W.im H a t kvs
  | .dead => True
structure Gd (W : Wd) (st : Store) (H : Hp) : Prop where
  len : W.eta.length = st.length
  nd : W.eta.Nodup
  cells : ∀ (i : Nat) (c : Cell) (a : Addr), st[i]? = some c → W.eta[i]? = some a → CellOk W H a c
  imm : ∀ a, W.im a → H a ≠ none
  tr : ∀ a, a ∈ W.eta → H a ≠ none
structure Ext (W : Wd) (H : Hp) (W' : Wd) (H' : Hp) : Prop where
  pre : ∃ t, W'.eta = W.eta ++ t
  im : ∀ a, W.im a → W'.im a
  frm : ∀ a o, H a = some o → (a ∉ W.eta ∨ W.im a) → H' a = some o
  newI : ∀ a, W'.im a → W.im a ∨ H a = none ∨ a ∈ W.eta
  newE : ∀ a, a ∈ W'.eta → a ∈ W.eta ∨ H a = none
  dom : ∀ a, H a ≠ none → H' a ≠ none
theorem Ext.refl {W : Wd} {H : Hp} : Ext W H W H := ⟨⟨[], by simp⟩, fun _ h => h, fun _ _ h _ => h, fun _ h => .inl h, fun _ h => .inl h, fun _ h => h⟩
theorem Ext.trans {W W1 W2 : Wd} {H H1 H2 : Hp} (x : Ext W H W1 H1) (y : Ext W1 H1 W2 H2) : Ext W H W2 H2 where
  pre := by
    obtain ⟨t, e⟩ := x.pre
    obtain ⟨u, f⟩ := y.pre
    exact ⟨t ++ u, by rw [f, e, List.append_assoc]⟩
  im := fun a h => y.im a (x.im a h)
  frm := fun a o h k => by
    refine y.frm a o (x.frm a o h k) ?_
    rcases k with k | k
    · refine .inl fun z => ?_
      rcases x.newE a z with z | z
      · exact k z
      · rw [h] at z; cases z
    · exact .inr (x.im a k)
  newI := fun a h => by
    rcases y.newI a h with h | h | h
    · exact x.newI a h
    · refine .inr (.inl ?_)
      cases q : H a with
      | none => rfl
      | some o => exact absurd h (x.dom a (by rw [q]; simp))
    · rcases x.newE a h with h | h
      · exact .inr (.inr h)
      · exact .inr (.inl h)
  newE := fun a h => by
    rcases y.newE a h with h | h
    · exact x.newE a h
    · refine .inr ?_
      cases q : H a with
      | none => rfl
      | some o => exact absurd h (x.dom a (by rw [q]; simp))
  dom := fun a h => y.dom a (x.dom a h)
section
variable {W W' : Wd} {H H' : Hp}
theorem Ext.dv (x : Ext W H W' H') {v : V} {d : PyData} (h : Dv W.im H v d) : Dv W'.im H' v d := h.mono x.im fun a o i e => x.frm a o e (.inr i)
theorem Ext.all (x : Ext W H W' H') {v : List V} {d : List PyData} (h : DvAll W.im H v d) : DvAll W'.im H' v d := h.mono x.im fun a o i e => x.frm a o e (.inr i)
theorem Ext.at (x : Ext W H W' H') {i : Nat} {a : Addr} (h : W.eta[i]? = some a) : W'.eta[i]? = some a := by
  obtain ⟨t, e⟩ := x.pre
  rw [e, List.getElem?_append_left (List.getElem?_eq_some_iff.mp h).1]
  exact h
/-- something just made, that nothing holds -/
def Loose (W : Wd) (H : Hp) (p : Addr) : Prop := H p ≠ none ∧ ¬ W.im p ∧ p ∉ W.eta
theorem Ext.loose (x : Ext W H W' H') {p : Addr} (h : Loose W H p) : Loose W' H' p := by
  refine ⟨x.dom p h.1, fun z => ?_, fun z => ?_⟩
  · rcases x.newI p z with z | z | z
    · exact h.2.1 z
    · exact h.1 z
    · exact h.2.2 z
  · rcases x.newE p z with z | z
    · exact h.2.2 z
    · exact h.1 z
theorem Ext.keepL (x : Ext W H W' H') {p : Addr} {o : HO} (h : Loose W H p) (e : H p = some o) : H' p = some o := x.frm p o e (.inl h.2.2)
theorem Ext.fresh (x : Ext W H W' H') {p : Addr} (h : H' p = none) : H p = none := by
  cases q : H p with
  | none => rfl
  | some o => exact absurd h (x.dom p (by rw [q]; simp))
/-- a tree of cells: its lists are data, its leaves cells -/
inductive TrR (eta : List Addr) (I : Addr → Prop) (H : Hp) : V → Tr → Prop
  | leaf {i : Nat} {a : Addr} (h : eta[i]? = some a) : TrR eta I H (.ref a) (.leaf i)
  | node {a : Addr} {vs : List V} {ts : List Tr} (i : I a) (h : H a = some (.lst vs)) (l : vs.length = ts.length) (k : ∀ (j : Nat) (v : V) (t : Tr), vs[j]? = some v → ts[j]? = some t → TrR eta I H v t) : TrR eta I H (.ref a) (.node ts)
theorem TrR.mono {eta eta' : List Addr} {I I' : Addr → Prop} {H H' : Hp} (he : ∀ (i : Nat) (a : Addr), eta[i]? = some a → eta'[i]? = some a) (hi : ∀ a, I a → I' a) (hh : ∀ a o, I a → H a = some o → H' a = some o) {v : V} {t : Tr} (r : TrR eta I H v t) : TrR eta' I' H' v t := by
  induction r with
  | leaf h => exact .leaf (he _ _ h)
  | node i h l _ ih => exact .node (hi _ i) (hh _ _ i h) l ih
/-- a value at a name -/
def DE (W : Wd) (H : Hp) (v : V) : D → Prop
  | .dat d => Dv W.im H v d
  | .ref i => ∃ a, W.eta[i]? = some a ∧ v = .ref a
  | .newL _ => False
  | .newD _ _ => False
  | .tree ts => TrR W.eta W.im H v (.node ts)
/-- a value of an expression that was begun at H0 -/
def DR (H0 : Hp) (W : Wd) (H : Hp) (v : V) : D → Prop
  | .dat d => Dv W.im H v d
  | .ref i => ∃ a, W.eta[i]? = some a ∧ v = .ref a
  | .newL xs => ∃ p vs, v = .ref p ∧ H p = some (.lst vs) ∧ Loose W H p ∧ H0 p = none ∧ DvAll W.im H vs xs
  | .newD t kvs => ∃ p, v = .ref p ∧ Loose W H p ∧ H0 p = none ∧ DictOk W.im H p t kvs
  | .tree ts => TrR W.eta W.im H v (.node ts)
theorem DictOk.mono {I I' : Addr → Prop} {a : Addr} {t : Bool} {kvs : List (PyData × PyData)} (hi : ∀ a, I a → I' a) (hh : ∀ a o, I a → H a = some o → H' a = some o) (ha : ∀ o, H a = some o → H' a = some o) (h : DictOk I H a t kvs) : DictOk I' H' a t kvs := by
  cases t with
  | false =>
    obtain ⟨ks, e, h⟩ := h
    exact ⟨ks, ha _ e, h.mono hi hh⟩
  | true =>
    obtain ⟨ks, e, h⟩ := h
    exact ⟨ks, ha _ e, h.mono hi hh⟩
theorem TrR.ext (x : Ext W H W' H') {v : V} {t : Tr} (r : TrR W.eta W.im H v t) : TrR W'.eta W'.im H' v t := r.mono (fun _ _ h => x.at h) x.im fun a o i e => x.frm a o e (.inr i)
theorem DE.mono (x : Ext W H W' H') {v : V} : ∀ {d : D}, DE W H v d → DE W' H' v d
  | .dat _, h => x.dv h
  | .ref _, ⟨a, h, e⟩ => ⟨a, x.at h, e⟩
  | .tree _, h => TrR.ext x h
theorem DE.dr {H0 : Hp} {v : V} : ∀ {d : D}, DE W H v d → DR H0 W H v d
  | .dat _, h => h
  | .ref _, h => h
  | .tree _, h => h
theorem trD_R {v : V} : ∀ {t : Tr}, DE W H v (trD t) ↔ TrR W.eta W.im H v t
  | .leaf i => ⟨fun ⟨a, h, e⟩ => by subst e; exact .leaf h, fun h => by cases h with | leaf h => exact ⟨_, h, rfl⟩⟩
  | .node _ => Iff.rfl
theorem DR.mono {H0 : Hp} (x : Ext W H W' H') {v : V} : ∀ {d : D}, DR H0 W H v d → DR H0 W' H' v d
  | .dat _, h => x.dv h
  | .ref _, ⟨a, h, e⟩ => ⟨a, x.at h, e⟩
  | .newL _, ⟨p, vs, e, h, l, n, r⟩ => ⟨p, vs, e, x.keepL l h, x.loose l, n, x.all r⟩
  | .newD _ _, ⟨p, e, l, n, r⟩ => ⟨p, e, x.loose l, n, r.mono x.im (fun a o i e => x.frm a o e (.inr i)) fun o e => x.keepL l e⟩
  | .tree _, h => TrR.ext x h
theorem DR.base {H0 H1 : Hp} (x : ∀ p, H0 p = none → H1 p = none) {v : V} : ∀ {d : D}, DR H0 W H v d → DR H1 W H v d
  | .dat _, h => h
  | .ref _, h => h
  | .newL _, ⟨p, vs, e, h, l, n, r⟩ => ⟨p, vs, e, h, l, x p n, r⟩
  | .newD _ _, ⟨p, e, l, n, r⟩ => ⟨p, e, l, x p n, r⟩
  | .tree _, h => h
def EnvR (W : Wd) (H : Hp) (ρ : Env) (σ : L2.St) : Prop := ρ.length = σ.length ∧ ∀ (i : Nat) (d : D), ρ[i]? = some (some d) → ∃ v, σ[i]? = some (some v) ∧ DE W H v d
theorem EnvR.mono (x : Ext W H W' H') {ρ : Env} {σ : L2.St} (h : EnvR W H ρ σ) : EnvR W' H' ρ σ := ⟨h.1, fun i d e => let ⟨v, e', r⟩ := h.2 i d e; ⟨v, e', r.mono x⟩⟩
theorem EnvR.set {ρ : Env} {σ : L2.St} (h : EnvR W H ρ σ) {v : V} {d : D} (r : DE W H v d) (i : Nat) : EnvR W H (ρ.set i (some d)) (σ.set i (some v)) := by
  refine ⟨by rw [List.length_set, List.length_set, h.1], fun j e hj => ?_⟩
  by_cases hij : i = j
  · subst hij
    by_cases hl : i < ρ.length
    · rw [List.getElem?_set_self hl] at hj
      cases hj
      exact ⟨v, List.getElem?_set_self (by rw [← h.1]; exact hl), r⟩
    · rw [List.getElem?_eq_none (by rw [List.length_set]; omega)] at hj
      cases hj
  · rw [List.getElem?_set_ne hij] at hj
    rw [List.getElem?_set_ne hij]
    exact h.2 j e hj
theorem EnvR.unset {ρ : Env} {σ : L2.St} (h : EnvR W H ρ σ) (i : Nat) : EnvR W H (ρ.set i none) (σ.set i none) := by
  refine ⟨by rw [List.length_set, List.length_set, h.1], fun j e hj => ?_⟩
  by_cases hij : i = j
  · subst hij
    by_cases hl : i < ρ.length
    · rw [List.getElem?_set_self hl] at hj
      cases hj
    · rw [List.getElem?_eq_none (by rw [List.length_set]; omega)] at hj
      cases hj
  · rw [List.getElem?_set_ne hij] at hj
    rw [List.getElem?_set_ne hij]
    exact h.2 j e hj
theorem EnvR.wipe {ρ : Env} {σ : L2.St} (h : EnvR W H ρ σ) : ∀ vs, EnvR W H (wipeE ρ vs) (L2.wipe σ vs)
  | [] => h
  | v :: vs => (EnvR.wipe h vs).unset v
end

/-! ### moves of the world -/
section
variable {W W0 : Wd} {H H0 : Hp} {st : Store}
def Wd.addI (W : Wd) (p : Addr) : Wd := ⟨W.eta, fun a => a = p ∨ W.im a⟩
def Wd.addE (W : Wd) (p : Addr) : Wd := ⟨W.eta ++ [p], W.im⟩
/-- a fresh object is laid, nobody's yet -/
theorem Ext.lay {p : Addr} {o : HO} (hp : H p = none) : Ext W H W (upd H p o) where
  pre := ⟨[], by simp⟩
  im := fun _ h => h
  frm := fun a u e _ => by rw [upd_ne (ne_of_none e hp)]; exact e
  newI := fun _ h => .inl h
  newE := fun _ h => .inl h
  dom := fun a h => by
    by_cases q : a = p
    · subst q; rw [upd_same]; simp
    · rw [upd_ne q]; exact h
theorem Gd.notI (g : Gd W st H) {p : Addr} (hp : H p = none) : ¬ W.im p := fun z => g.imm p z hp
theorem Gd.notE (g : Gd W st H) {p : Addr} (hp : H p = none) : p ∉ W.eta := fun z => g.tr p z hp
theorem CellOk.mono {W' : Wd} {H' : Hp} {a : Addr} {c : Cell} (hi : ∀ a, W.im a → W'.im a) (hh : ∀ a o, W.im a → H a = some o → H' a = some o) (ha : ∀ o, H a = some o → H' a = some o) (hn : ¬ W.im a → ¬ W'.im a) (h : CellOk W H a c) : CellOk W' H' a c := by
  cases c with
  | lst xs =>
    obtain ⟨n, vs, e, r⟩ := h
    exact ⟨hn n, vs, ha _ e, r.mono hi hh⟩
  | dct t kvs =>
    obtain ⟨n, r⟩ := h
    exact ⟨hn n, r.mono hi hh ha⟩
  | dead => trivial
  | exc x =>
    obtain ⟨n, k, d, e, r⟩ := h
    exact ⟨hn n, k, d, ha _ e, r.mono hi hh⟩
theorem Gd.lay (g : Gd W st H) {p : Addr} {o : HO} (hp : H p = none) : Gd W st (upd H p o) where
  len := g.len
  nd := g.nd
  cells := fun i c a e1 e2 => (g.cells i c a e1 e2).mono (fun _ h => h) (fun b u _ e => by rw [upd_ne (ne_of_none e hp)]; exact e) (fun u e => by rw [upd_ne (ne_of_none e hp)]; exact e) fun h => h
  imm := fun a h => (Ext.lay (W := W) hp).dom a (g.imm a h)
  tr := fun a h => (Ext.lay (W := W) hp).dom a (g.tr a h)
theorem Loose.lay (g : Gd W st H) {p : Addr} {o : HO} (hp : H p = none) : Loose W (upd H p o) p := ⟨by rw [upd_same]; simp, g.notI hp, g.notE hp⟩
/-- what is loose becomes data -/
theorem Ext.own {p : Addr} (x : Ext W0 H0 W H) (n : H0 p = none) : Ext W0 H0 (W.addI p) H where
  pre := x.pre
  im := fun a h => .inr (x.im a h)
  frm := x.frm
  newI := fun a h => by
    rcases h with h | h
    · subst h; exact .inr (.inl n)
    · exact x.newI a h
  newE := x.newE
  dom := x.dom
theorem Gd.own (g : Gd W st H) {p : Addr} (l : Loose W H p) : Gd (W.addI p) st H where
  len := g.len
  nd := g.nd
  cells := fun i c a e1 e2 => (g.cells i c a e1 e2).mono (fun _ h => .inr h) (fun b u _ e => e) (fun u e => e) fun h => fun z => by
    rcases z with z | z
    · subst z; exact l.2.2 (List.mem_of_getElem? e2)
    · exact h z
  imm := fun a h => by
    rcases h with h | h
    · subst h; exact l.1
    · exact g.imm a h
  tr := g.tr
theorem Dv.own {p : Addr} {v : V} {d : PyData} (h : Dv W.im H v d) : Dv (W.addI p).im H v d := h.mono (fun _ h => .inr h) fun _ _ _ e => e
theorem DvAll.own {p : Addr} {v : List V} {d : List PyData} (h : DvAll W.im H v d) : DvAll (W.addI p).im H v d := h.mono (fun _ h => .inr h) fun _ _ _ e => e
theorem DE.own {p : Addr} {v : V} : ∀ {d : D}, DE W H v d → DE (W.addI p) H v d
  | .dat _, h => Dv.own h
  | .ref _, h => h
  | .tree _, h => TrR.mono (fun _ _ h => h) (fun _ h => .inr h) (fun _ _ _ e => e) h
theorem EnvR.own {p : Addr} {ρ : Env} {σ : L2.St} (h : EnvR W H ρ σ) : EnvR (W.addI p) H ρ σ := ⟨h.1, fun i d e => let ⟨v, e', r⟩ := h.2 i d e; ⟨v, e', r.own⟩⟩
/-- what is loose becomes a cell -/
theorem Ext.cell {p : Addr} (x : Ext W0 H0 W H) (n : H0 p = none) : Ext W0 H0 (W.addE p) H where
  pre := by
    obtain ⟨t, e⟩ := x.pre
    exact ⟨t ++ [p], by show W.eta ++ [p] = _; rw [e, List.append_assoc]⟩
  im := x.im
  frm := x.frm
  newI := x.newI
  newE := fun a h => by
    rcases List.mem_append.mp h with h | h
    · exact x.newE a h
    · rw [List.mem_singleton] at h; subst h; exact .inr n
  dom := x.dom
theorem Gd.cell (g : Gd W st H) {p : Addr} (l : Loose W H p) {c : Cell} (hc : CellOk W H p c) : Gd (W.addE p) (st ++ [c]) H where
  len := by
    show (W.eta ++ [p]).length = _
    rw [List.length_append, List.length_append, g.len] <;> rfl
  nd := by
    show (W.eta ++ [p]).Nodup
    rw [List.nodup_append]
    refine ⟨g.nd, by simp, fun a ha b hb e => ?_⟩
    rw [List.mem_singleton] at hb
    subst hb
    exact l.2.2 (e ▸ ha)
  cells := fun i d a e1 e2 => by
    have e2 : (W.eta ++ [p])[i]? = some a := e2
    by_cases hi : i < st.length
    · rw [List.getElem?_append_left hi] at e1
      rw [List.getElem?_append_left (by rw [g.len]; exact hi)] at e2
      exact (g.cells i d a e1 e2).mono (fun _ h => h) (fun _ _ _ e => e) (fun _ e => e) fun h => h
    · rw [List.getElem?_append_right (by omega)] at e1
      rw [List.getElem?_append_right (by rw [g.len]; omega), g.len] at e2
      cases q : i - st.length with
      | zero =>
        rw [q] at e1 e2
        cases e1
        cases e2
        exact hc.mono (fun _ h => h) (fun _ _ _ e => e) (fun _ e => e) fun h => h
      | succ n =>
        rw [q] at e1
        simp at e1
  imm := g.imm
  tr := fun a h => by
    rcases List.mem_append.mp h with h | h
    · exact g.tr a h
    · rw [List.mem_singleton] at h; subst h; exact l.1
/-- a cell is written -/
theorem Gd.live (g : Gd W st H) {i : Nat} {xs : List PyData} {a : Addr} (e : st[i]? = some (.lst xs)) (h : W.eta[i]? = some a) : ¬ W.im a ∧ ∃ vs, H a = some (.lst vs) ∧ DvAll W.im H vs xs := g.cells i _ a e h
theorem Ext.write {a : Addr} {o : HO} (x : Ext W0 H0 W H) (h : a ∈ W.eta) (n : ¬ W.im a) : Ext W0 H0 W (upd H a o) where
  pre := x.pre
  im := x.im
  frm := fun b u e k => by
    have hb : b ≠ a := fun q => by
      subst q
      rcases k with k | k
      · rcases x.newE b h with z | z
        · exact k z
        · rw [e] at z; cases z
      · exact n (x.im b k)
    rw [upd_ne hb]
    exact x.frm b u e k
  newI := x.newI
  newE := x.newE
  dom := fun b h => by
    by_cases q : b = a
    · subst q; rw [upd_same]; simp
    · rw [upd_ne q]; exact x.dom b h
theorem Gd.write (g : Gd W st H) {i : Nat} {a : Addr} {o : HO} {c : Cell} (h : W.eta[i]? = some a) (n : ¬ W.im a) (hc : CellOk W (upd H a o) a c) : Gd W (st.set i c) (upd H a o) where
  len := by rw [List.length_set]; exact g.len
  nd := g.nd
  cells := fun j d b e1 e2 => by
    by_cases q : i = j
    · subst q
      rw [h] at e2
      cases e2
      by_cases hi : i < st.length
      · rw [List.getElem?_set_self hi] at e1
        cases e1
        exact hc
      · rw [List.getElem?_eq_none (by rw [List.length_set]; omega)] at e1
        cases e1
    · rw [List.getElem?_set_ne q] at e1
      have hb : b ≠ a := fun z => by
        subst z
        exact q (((List.getElem?_inj (List.getElem?_eq_some_iff.mp h).1 g.nd).mp (h.trans e2.symm)))
      refine (g.cells j d b e1 e2).mono (fun _ h => h) (fun y u k e => ?_) (fun u e => ?_) fun h => h
      · rw [upd_ne (show y ≠ a from fun z => n (by rw [← z]; exact k))]; exact e
      · rw [upd_ne hb]; exact e
  imm := fun b h => by
    by_cases q : b = a
    · subst q; rw [upd_same]; simp
    · rw [upd_ne q]; exact g.imm b h
  tr := fun b h => by
    by_cases q : b = a
    · subst q; rw [upd_same]; simp
    · rw [upd_ne q]; exact g.tr b h
theorem Dv.write {a : Addr} {o : HO} (n : ¬ W.im a) {v : V} {d : PyData} (h : Dv W.im H v d) : Dv W.im (upd H a o) v d := h.mono (fun _ h => h) fun y u k e => by rw [upd_ne (show y ≠ a from fun z => n (by rw [← z]; exact k))]; exact e
theorem DvAll.write {a : Addr} {o : HO} (n : ¬ W.im a) {v : List V} {d : List PyData} (h : DvAll W.im H v d) : DvAll W.im (upd H a o) v d := h.mono (fun _ h => h) fun y u k e => by rw [upd_ne (show y ≠ a from fun z => n (by rw [← z]; exact k))]; exact e
theorem DE.write {a : Addr} {o : HO} (n : ¬ W.im a) {v : V} : ∀ {d : D}, DE W H v d → DE W (upd H a o) v d
  | .dat _, h => Dv.write n h
  | .ref _, h => h
  | .tree _, h => TrR.mono (fun _ _ h => h) (fun _ h => h) (fun y _ k e => by rw [upd_ne (show y ≠ a from fun z => n (by rw [← z]; exact k))]; exact e) h
theorem EnvR.write {a : Addr} {o : HO} (n : ¬ W.im a) {ρ : Env} {σ : L2.St} (h : EnvR W H ρ σ) : EnvR W (upd H a o) ρ σ := ⟨h.1, fun i d e => let ⟨v, e', r⟩ := h.2 i d e; ⟨v, e', r.write n⟩⟩
/-- a cell becomes data -/
theorem Ext.still {p : Addr} (x : Ext W0 H0 W H) (h : p ∈ W.eta) : Ext W0 H0 (W.addI p) H where
  pre := x.pre
  im := fun a h => .inr (x.im a h)
  frm := x.frm
  newI := fun a k => by
    rcases k with k | k
    · subst k
      rcases x.newE a h with z | z
      · exact .inr (.inr z)
      · exact .inr (.inl z)
    · exact x.newI a k
  newE := x.newE
  dom := x.dom
theorem Gd.still (g : Gd W st H) {i : Nat} {a : Addr} (h : W.eta[i]? = some a) : Gd (W.addI a) (st.set i .dead) H where
  len := by rw [List.length_set]; exact g.len
  nd := g.nd
  cells := fun j d b e1 e2 => by
    by_cases q : i = j
    · subst q
      by_cases hi : i < st.length
      · rw [List.getElem?_set_self hi] at e1
        cases e1
        trivial
      · rw [List.getElem?_eq_none (by rw [List.length_set]; omega)] at e1
        cases e1
    · rw [List.getElem?_set_ne q] at e1
      have hb : b ≠ a := fun z => by
        subst z
        exact q (((List.getElem?_inj (List.getElem?_eq_some_iff.mp h).1 g.nd).mp (h.trans e2.symm)))
      refine (g.cells j d b e1 e2).mono (fun _ h => .inr h) (fun y u k e => e) (fun u e => e) fun h z => ?_
      rcases z with z | z
      · exact hb z
      · exact h z
  imm := fun b k => by
    rcases k with k | k
    · subst k; exact g.tr b (List.mem_of_getElem? h)
    · exact g.imm b k
  tr := g.tr
end

/-! ### readings by runs -/
/-- from the world W, H (begun at W0, H0) the run comes to an end of which Q is known -/
abbrev FX := Wd → Hp → Exc → Prop
abbrev XAt (Fx : FX) (W0 : Wd) (H0 : Hp) : Exc → Store → Prop := fun x st' => ∀ W' H', Ext W0 H0 W' H' → Gd W' st' H' → Fx W' H' x
def At {α β : Type} (Fx : FX) (W0 : Wd) (H0 : Hp) (R : Hp → Wd → Hp → β → α → Prop) (m : M α) (W : Wd) (H : Hp) (st : Store) (Q : β → Hp → Prop) : Prop :=
  Ext W0 H0 W H ∧ Gd W st H ∧ wp (XAt Fx W0 H0) m st fun a st' => ∀ W' H' b, Ext W0 H0 W' H' → Gd W' st' H' → R H0 W' H' b a → Q b H'
def rG {α β : Type} (Ef : L2.St → FX) (R : Hp → Wd → Hp → β → α → Prop) (m : Env → M α) : L2.St → Hp → (β → Hp → Prop) → Prop := fun σ H Q =>
  ∃ W ρ st, EnvR W H ρ σ ∧ At (Ef σ) W H R (m ρ) W H st Q
abbrev REq {α : Type} : Hp → Wd → Hp → α → α → Prop := fun _ _ _ b a => b = a
abbrev RLst : Hp → Wd → Hp → List V → List PyData → Prop := fun _ W H vs ds => DvAll W.im H vs ds
section
variable {Fx : FX} {α β γ δ : Type} {W0 W : Wd} {H0 H : Hp} {R : Hp → Wd → Hp → β → α → Prop} {R1 : Hp → Wd → Hp → δ → γ → Prop} {st : Store} {Q Q' : β → Hp → Prop}
theorem At.mono {m : M α} (h : At Fx W0 H0 R m W H st Q) (i : ∀ b H', Q b H' → Q' b H') : At Fx W0 H0 R m W H st Q' := ⟨h.1, h.2.1, wp_mono h.2.2 fun _ _ k W' H' b x g r => i _ _ (k W' H' b x g r)⟩
theorem At.anyX {m : M α} (h : At (fun _ _ _ => False) W0 H0 R m W H st Q) : At Fx W0 H0 R m W H st Q := ⟨h.1, h.2.1, wp_mono2 h.2.2 (fun _ _ z => z) fun _ _ z W' H' x g => (z W' H' x g).elim⟩
theorem At.bind {m : M γ} {k : γ → M α} (h : At Fx W0 H0 R (m >>= k) W H st Q) : At Fx W H R1 m W H st fun b H1 => ∃ a W1 st1, Ext W H W1 H1 ∧ R1 H W1 H1 b a ∧ At Fx W0 H0 R (k a) W1 H1 st1 Q := by
  obtain ⟨x, g, w⟩ := h
  rw [wp_bind] at w
  exact ⟨.refl, g, wp_mono2 w (fun a s w' W' H' b x' g' r => ⟨a, W', s, x', r, x.trans x', g', w'⟩) fun e s w' W' H' x' g' => w' W' H' (x.trans x') g'⟩
theorem At.pure {a : α} (h : At Fx W0 H0 R (pure a) W H st Q) : ∀ W' H' b, Ext W0 H0 W' H' → Gd W' st H' → R H0 W' H' b a → Q b H' := h.2.2
theorem At.ofO {o : Option γ} {k : γ → M α} (h : At Fx W0 H0 R (ofO o >>= k) W H st Q) : ∃ a, o = some a ∧ At Fx W0 H0 R (k a) W H st Q := by
  obtain ⟨x, g, w⟩ := h
  rw [wp_bind, wp_ofO] at w
  obtain ⟨a, e, w⟩ := w
  exact ⟨a, e, x, g, w⟩
theorem At.ofO' {o : Option α} (h : At Fx W0 H0 R (MP.ofO o) W H st Q) : ∃ a, o = some a ∧ At Fx W0 H0 R (Pure.pure a) W H st Q := by
  obtain ⟨x, g, w⟩ := h
  rw [wp_ofO] at w
  obtain ⟨a, e, w⟩ := w
  exact ⟨a, e, x, g, w⟩
theorem At.guard {b : Bool} {k : Unit → M α} (h : At Fx W0 H0 R (guardB b >>= k) W H st Q) : b = true ∧ At Fx W0 H0 R (k ()) W H st Q := by
  obtain ⟨x, g, w⟩ := h
  rw [wp_bind, wp_guard] at w
  exact ⟨w.1, x, g, w.2⟩
theorem At.fail (h : At Fx W0 H0 R fail W H st Q) : False := h.2.2
theorem At.pureB {a : γ} {k : γ → M α} (h : At Fx W0 H0 R (Pure.pure a >>= k) W H st Q) : At Fx W0 H0 R (k a) W H st Q := h
/-- what a look shows, at this moment -/
def Vw (W : Wd) (H : Hp) (v : V) (d : PyData) : Prop := match d with
  | .list ds => ∃ a vs, v = .ref a ∧ Rd H a (.lst vs) ∧ DvAll W.im H vs ds
  | d => Dv W.im H v d
theorem Vw.of {v : V} {d : PyData} (h : Dv W.im H v d) : Vw W H v d := by
  cases d with
  | list ds =>
    cases h with
    | lst i r q => exact ⟨_, _, rfl, r, q⟩
  | _ => exact h
theorem Vw.dp (K : PySem.W.Frag) {v : V} {d : PyData} (h : Vw W H v d) (p : d.plain = true) : Dp K H v d := by
  cases d with
  | list ds =>
    obtain ⟨a, vs, e, r, q⟩ := h
    subst e
    exact .lst (.inl r) (q.dp K (by simpa only [PyData.plain] using p))
  | _ => exact Dv.dp K h p
theorem At.look {d : D} {v : V} {k : PyData → M α} {H9 : Hp} (h : At Fx W0 H0 R (look d >>= k) W H st Q) (r : DR H9 W H v d) : ∃ u, Vw W H v u ∧ At Fx W0 H0 R (k u) W H st Q := by
  obtain ⟨x, g, w⟩ := h
  rw [wp_bind] at w
  cases d with
  | dat d => exact ⟨d, .of r, x, g, w⟩
  | newL xs =>
    obtain ⟨p, vs, e, h, _, _, q⟩ := r
    exact ⟨.list xs, ⟨p, vs, e, .inl h, q⟩, x, g, w⟩
  | newD t kvs => exact w.elim
  | tree ts => exact w.elim
  | ref i =>
    obtain ⟨a, ha, e⟩ := r
    obtain ⟨xs, hx, w⟩ := wp_lookR.mp w
    obtain ⟨n, vs, hv, q⟩ := g.live hx ha
    exact ⟨.list xs, ⟨a, vs, e, .inl hv, q⟩, x, g, w⟩
end
end MP
end MRel

section MStr
set_option Elab.async false
set_option linter.all false
set_option maxRecDepth 100000
set_option autoImplicit false
set_option maxHeartbeats 1000000
/-! MStr: tuples whose object is known (it has no dict); dicts by tuples of whole numbers. -/
namespace MP
open PySem PySem.Spec PyProof.Rows L2

/-- what may be wished of a tuple just made -/
def NewT (H : Hp) (vs : List V) (Q : V → Hp → Prop) : Prop := ∀ (p : Addr) (ob : Obj), H p = none → ob.dict = none → Q (.ref p) (upd H p (.frz ob (.tup vs)))
section
variable {X : Cx} {pins : List (Addr × Obj)} {σ : L2.St} {H : Hp} {s : Shared}
/-- a tuple is laid down -/
theorem lay_tup (I : Inv X pins σ H s) {vs : List V} {us : List Value} (rl : Vals vs us) (hz : vs.length ≤ sizeLine) {Q : V → Hp → Prop} (q : NewT H vs Q) (t : Nat) :
    EP X pins σ Q (.ref s.heap.objs.size) { s with heap := s.heap.push { cls := .type "tuple", data := .seq us.toArray }, toks := t } := by
  have at_ := Heap.get?_push_size s.heap (o := ({ cls := .type "tuple", data := .seq us.toArray } : Obj)) rfl
  have free := I.hok.fresh (Nat.le_refl s.heap.objs.size)
  exact ⟨.ref _, _, I.laid (t' := t) (o := .frz { cls := .type "tuple", data := .seq us.toArray } (.tup vs)) (fun _ _ e => Heap.get?_push_of_some _ e) (Nat.le_refl _) ⟨at_, hz, us, rl, _, at_, rfl, _, rfl⟩, rfl, q _ _ free rfl⟩
theorem lay_tup' (I : Inv X pins σ H s) {vs : List V} {us : List Value} (rl : Vals vs us) (hz : vs.length ≤ sizeLine) {Q : V → Hp → Prop} (q : NewT H vs Q) :
    EP X pins σ Q (.ref s.heap.objs.size) { s with heap := s.heap.push { cls := .type "tuple", data := .seq us.toArray } } := lay_tup I rl hz q s.toks
/-- what is read of a tuple -/
theorem tup_at (I : Inv X pins σ H s) {a : Addr} {vs : List V} (h : StT H a vs) : ∃ us : List Value, Vals vs us ∧ IsTup s.heap a us.toArray ∧ vs.length ≤ sizeLine ∧ us.length = vs.length := by
  obtain ⟨us, r, p, z⟩ := I.tuple (.inl h.rd)
  exact ⟨us, r, p, z, r.length.symm⟩
/-- a display -/
def tTupS (t : TA) : TE := fun σ H Q => t σ H fun vs H1 => vs.length ≤ sizeLine ∧ NewT H1 vs Q
theorem pe_tupS {es : List Expr} {t : TA} {k} {pos : Pos} (h : PA X es t) : PE X (.Tuple es k pos) (tTupS t) := by
  constructor
  intro pins s σ H Q I w
  apply wpAny_Tuple_spliced
  refine thn (h.run pos pins s σ H _ I w) ?_
  rintro us s1 ⟨vs, H1, I1, rl, hz, q⟩
  refine ⟨?_, lay_tup' I1 rl hz q⟩
  rwa [← rl.length]
/-- tuple of a list -/
theorem cr_tupS : CallR X (.type "tuple") (fun vs H Q => ∃ l ws, vs = [.ref l] ∧ SqL X.K H l ws ∧ NewT H ws Q) := by
  rintro pins s σ H vs us Q I rl ⟨l, ws, rfl, hl, q⟩
  cases rl with
  | cons a b =>
    cases b
    cases a
    obtain ⟨is, ri, pl, hz⟩ := I.list hl
    have hlen := ri.length
    refine call_tuple_list pl.isList (fun g hk => ?_) (by rw [List.size_toArray, ← hlen]; exact hz)
    exact lay_tup' (s := { s with heap := g }) (I.kept (t' := s.toks) hk) ri hz q
/-- tuple of a range -/
def tTupRgS (te : L2.St → Hp → (Int → Int → Hp → Prop) → Prop) : TE := fun σ H Q => te σ H fun a b H1 => RgOk a b ∧ NewT H1 (rgV a b) Q
theorem pe_tupRgS {e : Expr} {te : L2.St → Hp → (Int → Int → Hp → Prop) → Prop} {p pos : Pos} (hc : X.calm = true) (hg : Gl X "tuple") (hm : X.mg "tuple" = none) (he : PRg X e te) (na : starEach [e] X.env = (false, eval e X.env) :: starEach [] X.env) :
    PE X (.Call (.Name "tuple" p) [e] [] pos) (tTupRgS te) := by
  constructor
  intro pins s σ H Q I w
  refine Call_ (ld_blt I hg hm boot_tuple (PyProof.Rows.callWith_type1 (args_cons (thn (he pins s σ H _ I w) ?_) na) na))
  rintro x s1 ⟨r, a, b, t, u, v, H1, rfl, hr, I1, ⟨b1, b2, b3, b4, b5⟩, q⟩
  apply args_nil
  refine call_tuple_range (n := (b - a).toNat) (I1.ok.hd hc) hr (small_one b1 b2 b3 b4) (rangeSize_nat a b) b5 fun g tk acc hk hi => ?_
  have := lay_tup (s := { s1 with heap := g, toks := tk }) (I1.kept (t' := tk) hk) (vals_rg hi) (by rw [rgV_length, sizeLine_eq]; omega) q tk
  rwa [Array.toArray_toList] at this
/-- put behind one another -/
theorem op_catS : OpR X (binaryOp .Add) (fun x y H Q => ∃ a b vs ws, x = .ref a ∧ y = .ref b ∧ StT H a vs ∧ StT H b ws ∧ vs.length + ws.length ≤ sizeLine ∧
    (vs = [] → Q (.ref b) H) ∧ (ws = [] → Q (.ref a) H) ∧ (vs ≠ [] → ws ≠ [] → NewT H (vs ++ ws) Q)) := by
  rintro pins s σ H x y v u Q I rx ry ⟨a, b, vs, ws, rfl, rfl, ha, hb, hz, q0, q1, q2⟩
  cases rx
  cases ry
  obtain ⟨us, r1, p1, _, l1⟩ := tup_at I ha
  obtain ⟨zs, r2, p2, _, l2⟩ := tup_at I hb
  by_cases hv : vs = []
  · subst hv
    cases r1
    exact cat_tup0 p1 p2 ⟨.ref b, H, I, rfl, q0 rfl⟩
  · have hu : us ≠ [] := fun z => hv (r1.nil_iff.mp z)
    refine HT.cat_tup p1 p2 hu (fun z => ?_) (fun z => ?_) (by omega)
    · exact ⟨.ref a, H, I, rfl, q1 (r2.nil_iff.mp z)⟩
    · exact lay_tup' I (r1.append r2) (by rw [List.length_append]; exact hz) (q2 hv fun e => z (r2.nil_iff.mpr e))
/-- a slice -/
theorem sl_tupS : SlR X (fun x lo hi H Q => ∃ a vs, x = .ref a ∧ StT H a vs ∧ (HT.sIx vs.length 0 lo = 0 ∧ HT.sIx vs.length vs.length hi = vs.length → Q (.ref a) H) ∧
    (¬ (HT.sIx vs.length 0 lo = 0 ∧ HT.sIx vs.length vs.length hi = vs.length) → NewT H (L2.cutV vs lo hi) Q)) := by
  rintro pins s σ H x v vl vu lo hi sl Q I rx hs pl pu ⟨a, vs, rfl, ha, q1, q2⟩
  cases rx
  obtain ⟨us, r, p, hz, hl⟩ := tup_at I ha
  have size : us.toArray.size = vs.length := by rw [List.size_toArray, hl]
  refine ⟨"tuple", _, PyProof.Rows.slot_tuple_getitem.lookup, p.typeIs, ?_⟩
  by_cases hw : HT.sIx vs.length 0 lo = 0 ∧ HT.sIx vs.length vs.length hi = vs.length
  · exact getItem_tuple_whole p hs pl pu (by rw [size]; exact hw) ⟨.ref a, H, I, rfl, q1 hw⟩
  · refine HT.getItem_tuple_cut p hs pl pu (by rw [size]; exact hw) ?_ (by rw [size]; exact hz)
    rw [size]
    exact lay_tup' I ((r.drop _).take _) (Nat.le_trans (cutV_length vs lo hi) hz) (q2 hw)
end

/-! ### dicts by tuples of whole numbers -/
def IsK (H : Hp) : List (List Int × Addr × V) → Prop := fun ks => ∀ x ∈ ks, StT H x.2.1 (x.1.map V.int)
def tkd (P : Program) (w : World) : HeapKind P w (List Int) := tupleKind (intKind P w)
theorem tkd_items {P : Program} {w : World} : ∀ {k : List Int} {us : List Value}, Vals (k.map V.int) us → ItemsAre (intKind P w) k us
  | [], _, h => by cases h; exact .nil
  | i :: k, _, h => by
    rw [List.map_cons] at h
    cases h with
    | cons a b =>
      obtain ⟨t, rfl⟩ := a
      refine .cons ?_ (tkd_items b)
      show Value.isInt i (.int i t) = true
      simp [Value.isInt]
theorem tkd_is {P : Program} {w : World} {H : Hp} {h : Heap} {b : Addr} {k : List Int} (ok : HOk P w H h) (e : StT H b (k.map V.int)) : (tkd P w).is h k b := by
  obtain ⟨_, us, r, o, g1, g2, n, g3⟩ := (show ObjOk P w H h b (.tup (k.map V.int)) from e.rd.ok ok)
  exact ⟨o, us.toArray, n, g1, g2, g3, tkd_items (by simpa using r)⟩
theorem dx_at {P : Program} {w : World} {H : Hp} {h : Heap} {a : Addr} {ks : List (List Int × Addr × V)} (ok : HOk P w H h) (e : H a = some (dxO a ks)) (hk : IsK H ks) :
    ks.length ≤ sizeLine ∧ (a == sysModules) = false ∧ ∃ xs, XR3 ks xs ∧ h.DictOfH (tkd P w) a xs := by
  obtain ⟨⟨z, y, xs, r, o, es, ep, h1, h2, h3, h4, h5⟩, _⟩ := (show ObjOk P w H h a (dxO a ks) from ok a _ e)
  refine ⟨z, y, xs, r, o, es, ep, h1, h2, h3, h4, ?_, h5⟩
  have all : ∀ {l : List (List Int × Addr × V)} {m : List (List Int × Addr × Value)}, XR3 l m → IsK H l → ∀ x ∈ m, (tkd P w).is h x.1 x.2.1 := by
    intro l m q
    induction q with
    | nil => exact fun _ x hx => nomatch hx
    | @cons p q ps qs hq t ih =>
      intro hl x hx
      rcases List.mem_cons.mp hx with rfl | hx
      · rw [← hq.1, ← hq.2.1]
        exact tkd_is ok (hl p List.mem_cons_self)
      · exact ih (fun y hy => hl y (List.mem_cons_of_mem _ hy)) x hx
  exact all r hk
theorem dx_new {P : Program} {w : World} {H : Hp} {h : Heap} {a : Addr} {ks : List (List Int × Addr × V)} {xs : List (List Int × Addr × Value)} (z : ks.length ≤ sizeLine) (y : (a == sysModules) = false) (r : XR3 ks xs) (d : h.DictOfH (tkd P w) a xs) : ObjOk P w H h a (dxO a ks) := by
  obtain ⟨o, es, ep, h1, h2, h3, h4, _, h5⟩ := d
  refine ⟨⟨z, y, xs, r, o, es, ep, h1, h2, h3, h4, h5⟩, ⟨o, h1⟩, ?_⟩
  rintro g1 g2 ⟨z, y, xs, r, o, es, ep, h1, h2⟩ k
  exact ⟨z, y, xs, r, o, es, ep, k o h1, h2⟩
/-- what stands at a key -/
def xGet (ks : List (List Int × Addr × V)) (k : List Int) : Option V := (ks.find? fun p => decide (p.1 = k)).map (·.2.2)
/-- a value put at a key: a key that is there stays -/
def xPut (ks : List (List Int × Addr × V)) (k : List Int) (b : Addr) (v : V) : List (List Int × Addr × V) :=
  if (ks.any fun p => decide (p.1 = k)) then ks.map fun p => if p.1 = k then (p.1, p.2.1, v) else p else ks ++ [(k, b, v)]
theorem XR3.get {ks : List (List Int × Addr × V)} {xs : List (List Int × Addr × Value)} (r : XR3 ks xs) (k : List Int) : RelO (xGet ks k) ((atKey xs k).map (·.2)) := by
  induction r with
  | nil => exact True.intro
  | @cons p q ps qs h t ih =>
    obtain ⟨h1, h2, h3⟩ := h
    by_cases e : p.1 = k
    · have e2 : q.1 = k := h1 ▸ e
      have f1 : xGet (p :: ps) k = some p.2.2 := by simp [xGet, e]
      have f2 : (atKey (q :: qs) k).map (·.2) = some q.2.2 := by simp [atKey, e2]
      rw [f1, f2]
      exact h3
    · have e2 : ¬ q.1 = k := fun z => e (h1.trans z)
      have f1 : xGet (p :: ps) k = xGet ps k := by simp [xGet, e]
      have f2 : atKey (q :: qs) k = atKey qs k := by simp [atKey, e2]
      rw [f1, f2]
      exact ih
theorem XR3.any {ks : List (List Int × Addr × V)} {xs : List (List Int × Addr × Value)} (r : XR3 ks xs) (k : List Int) : (ks.any fun p => decide (p.1 = k)) = (atKey xs k).isSome := by
  induction r with
  | nil => rfl
  | @cons p q ps qs h t ih =>
    rw [List.any_cons, ih]
    by_cases e : p.1 = k
    · have e2 : q.1 = k := h.1 ▸ e
      simp [atKey, e, e2]
    · have e2 : ¬ q.1 = k := fun z => e (h.1.trans z)
      simp [atKey, e, e2]
theorem XR3.repl {ks : List (List Int × Addr × V)} {xs : List (List Int × Addr × Value)} (r : XR3 ks xs) (k : List Int) {v : V} {u : Value} (ru : RelV v u) : XR3 (ks.map fun p => if p.1 = k then (p.1, p.2.1, v) else p) (xs.map (putAt k u)) := by
  induction r with
  | nil => exact .nil
  | @cons p q ps qs h t ih =>
    rw [List.map_cons, List.map_cons]
    refine .cons ?_ ih
    unfold putAt
    by_cases e : p.1 = k
    · have e2 : q.1 = k := h.1 ▸ e
      rw [if_pos e, if_pos e2]
      exact ⟨h.1, h.2.1, ru⟩
    · have e2 : ¬ q.1 = k := fun z => e (h.1.trans z)
      rw [if_neg e, if_neg e2]
      exact h
theorem XR3.put {ks : List (List Int × Addr × V)} {xs : List (List Int × Addr × Value)} (r : XR3 ks xs) (k : List Int) (b : Addr) {v : V} {u : Value} (ru : RelV v u) : XR3 (xPut ks k b v) (storedH xs k b u) := by
  unfold xPut storedH
  rw [r.any k]
  split
  · exact r.repl k ru
  · exact Paired.snoc r ⟨rfl, rfl, ru⟩
theorem xPut_len (ks : List (List Int × Addr × V)) (k : List Int) (b : Addr) (v : V) : (xPut ks k b v).length ≤ ks.length + 1 := by
  unfold xPut
  split
  · rw [List.length_map]; omega
  · rw [List.length_append, List.length_singleton]; omega
/-- by what a dict is asked: a dict by whole numbers and texts, or by tuples -/
def XGet (H : Hp) (a : Addr) (y : V) (r : Option V) : Prop := DGet H a y r ∨ ∃ ks k b, H a = some (dxO a ks) ∧ IsK H ks ∧ y = .ref b ∧ StT H b (k.map V.int) ∧ r = xGet ks k
def XPut (H : Hp) (a : Addr) (y v : V) (H' : Hp) : Prop := DPut H a y v H' ∨ ∃ ks k b, H a = some (dxO a ks) ∧ IsK H ks ∧ y = .ref b ∧ StT H b (k.map V.int) ∧ ks.length < sizeLine ∧ H' = upd H a (dxO a (xPut ks k b v))
section
variable {X : Cx} {pins : List (Addr × Obj)} {σ : L2.St} {H : Hp} {s : Shared} {a : Addr} {y v : V} {u r : Value} {o : Option V} {A : Around} {E : Value → Shared → Prop}
theorem x_get {Q : Value → Shared → Prop} (hu : A.units + 1 < cLine) (I : Inv X pins σ H s) (g : XGet H a y (some v)) (ry : RelV y u) (h : ∀ w' s', Inv X pins σ H s' → RelV v w' → Q w' s') : wpAny (model X.prog X.w) A (getItem (.ref a) u) Q E s := by
  rcases g with g | ⟨ks, k, b, e, hk, rfl, eb, l⟩
  · exact d_getItem hu I g ry h
  · cases ry
    obtain ⟨_, _, xs, rl, dd⟩ := dx_at I.hok e hk
    have := rl.get k
    rw [← l] at this
    obtain ⟨w1, hw, rw1⟩ := RelO.some_of this
    obtain ⟨p, hp, rfl⟩ := Option.map_eq_some_iff.mp hw
    exact wpAny_getItem_heap (tupleKind_room_in1 hu) (tkd_is I.hok eb) dd hp (h _ _ (I.tok _) rw1)
theorem x_in {Q : Value → Shared → Prop} (hu : A.units + 1 < cLine) (I : Inv X pins σ H s) (g : XGet H a y o) (ry : RelV y u) (h : ∀ s', Inv X pins σ H s' → Q (.bool o.isSome) s') : wpAny (model X.prog X.w) A (compareOp .In u (.ref a)) Q E s := by
  rcases g with g | ⟨ks, k, b, e, hk, rfl, eb, l⟩
  · exact d_in hu I g ry h
  · cases ry
    obtain ⟨_, hd, xs, rl, dd⟩ := dx_at I.hok e hk
    have q := (rl.get k).isSome_eq
    rw [Option.isSome_map, ← l] at q
    refine wpAny_in_heap (tupleKind_room_in1 hu) (tkd_is I.hok eb) hd dd ?_
    rw [← q]
    exact h _ (I.tok _)
theorem x_notIn {Q : Value → Shared → Prop} (hu : A.units + 1 < cLine) (I : Inv X pins σ H s) (g : XGet H a y o) (ry : RelV y u) (h : ∀ s', Inv X pins σ H s' → Q (.bool (!o.isSome)) s') : wpAny (model X.prog X.w) A (compareOp .NotIn u (.ref a)) Q E s := by
  rcases g with g | ⟨ks, k, b, e, hk, rfl, eb, l⟩
  · exact d_notIn hu I g ry h
  · cases ry
    obtain ⟨_, hd, xs, rl, dd⟩ := dx_at I.hok e hk
    have q := (rl.get k).isSome_eq
    rw [Option.isSome_map, ← l] at q
    refine wpAny_notIn_heap (tupleKind_room_in1 hu) (tkd_is I.hok eb) hd dd ?_
    rw [← q]
    exact h _ (I.tok _)
theorem x_set {H' : Hp} {Q : Unit → Shared → Prop} (hu : A.units + 1 < cLine) (I : Inv X pins σ H s) (g : XPut H a y v H') (ry : RelV y u) (rv : RelV v r) (h : ∀ s', Inv X pins σ H' s' → Q () s') : wpAny (model X.prog X.w) A (setItem (.ref a) u r) Q E s := by
  rcases g with g | ⟨ks, k, b, e, hk, rfl, eb, l, rfl⟩
  · exact d_setItem hu I g ry rv h
  · cases ry
    obtain ⟨hz, hd, xs, rl, dd⟩ := dx_at I.hok e hk
    have hx : xs.length ≤ sizeLine := by rw [← Paired.length rl]; exact hz
    have hl := xPut_len ks k b v
    refine wpAny_setItem_heap (hsz := hx) (tupleKind_room_in1 hu) (tkd_is I.hok eb) dd fun g d2 sb => h _ ?_
    have some_ : ∃ q, g.get? a = some q := let ⟨q, _, _, hq, _⟩ := d2; ⟨q, hq⟩
    exact d_write I (by rw [e]; exact True.intro) sb some_ (dx_new (by omega) hd (rl.put k b rv) d2)
theorem x_type (I : Inv X pins σ H s) (g : XGet H a y o) : s.TypeIs (.ref a) "dict" := by
  rcases g with g | ⟨ks, k, b, e, hk, _⟩
  · exact dict_typeIs I g
  · obtain ⟨_, _, xs, _, dd⟩ := dx_at I.hok e hk
    exact dd.typeIs
end
def tXGet (td ty : TE) : TE := fun σ H Q => td σ H fun x H1 => ty σ H1 fun y H2 => ∃ a v, x = .ref a ∧ XGet H2 a y (some v) ∧ Q v H2
def tXIn (f : Bool → Bool) (ty td : TE) : TE := fun σ H Q => ty σ H fun y H1 => td σ H1 fun x H2 => ∃ a o, x = .ref a ∧ XGet H2 a y o ∧ Q (.bl (f o.isSome)) H2
def tXNew : TE := fun _ H Q => ∀ p, H p = none → Q (.ref p) (upd H p (dxO p []))
section
variable {X : Cx} {o i value : Expr} {pos pos' : Pos} {td ty tv : TE}
theorem pe_xget (hu : X.A.units + 1 < cLine) (ho : PE X o td) (hi : PE X i ty) (hs : NoSl i) : PE X (.Subscript o i pos) (tXGet td ty) := by
  constructor
  intro pins s σ H Q I w
  refine subD_of PySem.F.slot_dict_getitem.lookup hs (thn (ho.run pins s σ H _ I w) ?_)
  rintro u s1 ⟨x, H1, I1, rx, q1⟩
  refine thn (hi.run pins s1 σ H1 _ I1 q1) ?_
  rintro iv s2 ⟨y, H2, I2, ry, a, v, rfl, g, q2⟩
  cases rx
  exact ⟨x_type I2 g, x_get hu I2 g ry fun w' s3 I3 r3 => ⟨v, H2, I3, r3, q2⟩⟩
theorem pc_xin (hu : X.A.units + 1 < cLine) (hi : PE X i ty) (ho : PE X o td) : PC X .In i o (tXIn id ty td) := by
  constructor
  intro pins s σ H Q I w
  refine thn (hi.run pins s σ H _ I w) ?_
  rintro iv s1 ⟨y, H1, I1, ry, q1⟩
  refine thn (ho.run pins s1 σ H1 _ I1 q1) ?_
  rintro u s2 ⟨x, H2, I2, rx, a, ov, rfl, g, q2⟩
  cases rx
  exact x_in hu I2 g ry fun s3 I3 => ⟨.bl ov.isSome, H2, I3, rfl, q2⟩
theorem pc_xnotin (hu : X.A.units + 1 < cLine) (hi : PE X i ty) (ho : PE X o td) : PC X .NotIn i o (tXIn not ty td) := by
  constructor
  intro pins s σ H Q I w
  refine thn (hi.run pins s σ H _ I w) ?_
  rintro iv s1 ⟨y, H1, I1, ry, q1⟩
  refine thn (ho.run pins s1 σ H1 _ I1 q1) ?_
  rintro u s2 ⟨x, H2, I2, rx, a, ov, rfl, g, q2⟩
  cases rx
  exact x_notIn hu I2 g ry fun s3 I3 => ⟨.bl (!ov.isSome), H2, I3, rfl, q2⟩
theorem pe_xnew : PE X (.Dict [] [] pos) tXNew := by
  constructor
  intro pins s σ H Q I w
  have d : (s.heap.push { cls := .type "dict", data := .dict #[] }).DictOfH (tkd X.prog X.w) s.heap.objs.size [] := Heap.DictOfH.new s.heap
  have big : (s.heap.objs.size == sysModules) = false := beq_eq_false_iff_ne.mpr (Ne.symm (Nat.ne_of_lt I.big))
  exact wpAny_Dict_empty ⟨.ref _, _, I.laid (t' := s.toks) (fun _ _ e => Heap.get?_push_of_some _ e) (Nat.le_refl _) (dx_new (Nat.zero_le _) big .nil d), rfl, w _ (I.hok.fresh (Nat.le_refl _))⟩
end
def rSetX : TSet := fun o i v H Q => ∃ a H', o = .ref a ∧ XPut H a i v H' ∧ Q H'
theorem set_x {X : Cx} (hu : X.A.units + 1 < cLine) : PSet X rSetX := by
  rintro pins s σ H o i v ov iv u Q I ro ri rv ⟨a, H', rfl, g, q⟩
  cases ro
  exact x_set hu I g ri rv fun s' I' => ⟨H', I', q⟩
/-! ### isinstance -/
def IsDx (H : Hp) (v : V) (n : String) : Prop := n = "dict" ∧ ∃ a ks, v = .ref a ∧ H a = some (dxO a ks)
def rIsiX (K : PySem.W.Frag) : List V → Hp → VK → Prop := fun vs H Q => rIsi K vs H Q ∨ ∃ (x : V) (n : String) (b : Bool), vs = [x, .ty n] ∧ IsDx H x "dict" ∧ PySem.W.kitOne K (.type "dict") (.type n) = some b ∧ Q (.bl b) H
theorem call_isiX {X : Cx} : CallR X (.builtin "isinstance") (rIsiX X.K) := by
  refine call_isi.or ?_
  rintro pins s σ H vs us Q I rl ⟨x, n, b, rfl, ⟨_, a, ks, rfl, e⟩, hk, q⟩
  obtain ⟨u1, u2, rfl, r1, r2⟩ := vals2 rl
  cases r1
  cases r2
  obtain ⟨⟨_, _, xs, _, o, es, ep, h1, h2, _⟩, _⟩ := (show ObjOk X.prog X.w H s.heap a (dxO a ks) from I.hok a _ e)
  exact PySem.W.kia_one PySem.W.kitx_dict I.kIn ⟨o, h1, h2.1⟩ hk (fun z => nomatch z) fun tk => ⟨.bl b, H, I.tok tk, rfl, q⟩
end MP
end MStr

section MSrt
set_option Elab.async false
set_option linter.all false
set_option maxRecDepth 100000
set_option autoImplicit false
set_option maxHeartbeats 4000000
/-! MSrt: sorted of tuples of whole numbers, any lengths from one on, any number of them. -/
namespace MP
open PySem PySem.Spec PyProof.Rows L2
/-! ### the order -/
theorem lexL_asym : ∀ a b : List Int, lexL a b = true → lexL b a = false
  | [], [], h => by cases h
  | [], _ :: _, _ => rfl
  | _ :: _, [], h => by cases h
  | x :: a, y :: b, h => by
    rw [lexL] at h ⊢
    by_cases e : x = y
    · rw [if_pos e] at h; rw [if_pos e.symm]; exact lexL_asym a b h
    · rw [if_neg e] at h
      rw [if_neg (fun z => e z.symm)]
      have := of_decide_eq_true h
      exact decide_eq_false (by omega)
theorem lexL_tri : ∀ a b : List Int, lexL a b = false → lexL b a = false → a = b
  | [], [], _, _ => rfl
  | [], _ :: _, h, _ => by cases h
  | _ :: _, [], _, h => by cases h
  | x :: a, y :: b, h, g => by
    rw [lexL] at h g
    by_cases e : x = y
    · rw [if_pos e] at h; rw [if_pos e.symm] at g; rw [e, lexL_tri a b h g]
    · rw [if_neg e] at h
      rw [if_neg (fun z => e z.symm)] at g
      have := of_decide_eq_false h
      have := of_decide_eq_false g
      omega
theorem lexL_tr : ∀ a b c : List Int, lexL b a = false → lexL c b = false → lexL c a = false
  | [], [], [], _, _ => rfl
  | [], _, _ :: _, _, _ => by cases ‹List Int› <;> rfl
  | [], _ :: _, [], _, h => by cases h
  | _ :: _, [], _, h, _ => by cases h
  | _ :: _, _ :: _, [], _, h => by cases h
  | x :: a, y :: b, z :: c, h, g => by
    rw [lexL] at h g ⊢
    by_cases e1 : y = x
    · subst e1
      rw [if_pos rfl] at h
      by_cases e2 : z = y
      · subst e2
        rw [if_pos rfl] at g ⊢
        exact lexL_tr a b c h g
      · rw [if_neg e2] at g ⊢
        exact g
    · rw [if_neg e1] at h
      by_cases e2 : z = y
      · subst e2
        rw [if_neg e1]
        exact h
      · rw [if_neg e2] at g
        have := of_decide_eq_false h
        have := of_decide_eq_false g
        rw [if_neg (by omega)]
        exact decide_eq_false (by omega)
theorem tins_perm (a : List Int) : ∀ l : List (List Int), (tins a l).Perm (a :: l)
  | [] => List.Perm.refl _
  | b :: r => by
    rw [tins]
    split
    · exact ((tins_perm a r).cons b).trans (List.Perm.swap ..)
    · exact List.Perm.refl _
theorem tsort_perm : ∀ l : List (List Int), (tsort l).Perm l
  | [] => List.Perm.refl _
  | a :: r => (tins_perm a _).trans ((tsort_perm r).cons a)
theorem tins_up (a : List Int) : ∀ l : List (List Int), l.Pairwise (fun x y => lexL y x = false) → (tins a l).Pairwise fun x y => lexL y x = false
  | [], _ => List.pairwise_singleton _ _
  | b :: r, h => by
    have h' := List.pairwise_cons.mp h
    rw [tins]
    split
    · rename_i e
      refine List.pairwise_cons.mpr ⟨fun y hy => ?_, tins_up a r h'.2⟩
      rcases List.mem_cons.mp ((tins_perm a r).subset hy) with rfl | hy
      · exact lexL_asym _ _ e
      · exact h'.1 y hy
    · rename_i e
      have e : lexL b a = false := by simpa using e
      refine List.pairwise_cons.mpr ⟨fun y hy => ?_, h⟩
      rcases List.mem_cons.mp hy with rfl | hy
      · exact e
      · exact lexL_tr _ _ _ e (h'.1 y hy)
theorem tsort_up : ∀ l : List (List Int), (tsort l).Pairwise fun x y => lexL y x = false
  | [] => List.Pairwise.nil
  | a :: r => tins_up a _ (tsort_up r)
theorem tsort_of {l m : List (List Int)} (p : m.Perm l) (u : m.Pairwise fun x y => lexL y x = false) : m = tsort l :=
  List.Perm.eq_of_pairwise (fun a b _ _ h1 h2 => lexL_tri a b h2 h1) u (tsort_up l) (p.trans (tsort_perm l).symm)
/-! ### the machine's sort -/
section
open Srt SrtO
variable {prog : Program} {w : World} {A : Around} {E : Value → Shared → Prop} {s : Shared}
def TupOf (h : Heap) (b : Addr) (ns : List Int) : Prop := ∃ (o : Obj) (its : List Value) (n : Nat), h.get? b = some o ∧ o.cls = .type "tuple" ∧ o.data = .seq its.toArray n ∧ IntsAre its ns
theorem oneLtI (c : Bool) {p q : Int} {t u : Tok} {Q : Bool → Shared → Prop} (h : Q (decide (p < q)) s) : wpAny (model prog w) A (oneLt' c (.int p t) (.int q u)) Q E s := by
  cases c with
  | true => exact oneLt_int h
  | false => exact PySem.W.kat_one _ _ (PyProof.Rows.lt_int (Q := PySem.W.BoolBack Q) h)
theorem katlex_ints {Q : Bool → Shared → Prop} {b fin : Bool} : ∀ {xs ys : List Value} {ns ms : List Int} (i : Nat), IntsAre xs ns → IntsAre ys ms → Q (lexL' fin ns ms) s → PySem.W.KatLex prog w A b fin Q (xs.zip ys) i s
  | [], _, _, _, i, .nil, _, h => PySem.W.kat_nil (by simpa [lexL'] using h)
  | _ :: _, [], _, _, i, .cons .., .nil, h => PySem.W.kat_nil (by simpa [lexL'] using h)
  | _ :: xs, _ :: ys, _, _, i, .cons x t r, .cons y u q, h => by
    rw [List.zip_cons_cons]
    refine PySem.W.kat_cons (SeqAt.EqAt.int_int x t y u prog w _ _ ?_)
    refine PySem.W.kat_go (fun e1 => ?_) (fun e1 => ?_)
    · have ex : x = y := by simpa using e1
      exact PySem.W.kat_yes (katlex_ints (i + 1) r q (by rw [lexL', if_pos ex] at h; exact h))
    · have ex : ¬ x = y := by simpa using e1
      exact PySem.W.kat_no (oneLtI _ (by rw [lexL', if_neg ex] at h; exact h))
theorem lexL'_eq : ∀ ns ms : List Int, lexL' (decide (ns.length < ms.length)) ns ms = lexL ns ms
  | [], [] => rfl
  | [], _ :: _ => by simp [lexL', lexL]
  | _ :: _, [] => by simp [lexL', lexL]
  | x :: a, y :: b => by
    rw [lexL', lexL]
    by_cases e : x = y
    · rw [if_pos e, if_pos e, ← lexL'_eq a b]
      simp
    · rw [if_neg e, if_neg e]
def kOf (k : Addr → List Int) : Value → List Int
  | .ref b => k b
  | _ => []
theorem swo_kOf (k : Addr → List Int) : Swo fun v u => lexL (kOf k v) (kOf k u) := ⟨fun x y h => lexL_asym _ _ h, fun x y z h1 h2 => lexL_tr _ _ _ h1 h2⟩
theorem tup_cmp {vs : List Value} {k : Addr → List Int} (hp : ∀ v ∈ vs, ∃ b, v = .ref b ∧ TupOf s.heap b (k b)) : Cmp prog w A s (tuples' true) (fun p => p.1 ∈ vs) (lt2 fun v u => lexL (kOf k v) (kOf k u)) := by
  intro p q hm hm'
  obtain ⟨b, e, o, its, n, ho, hc, hd, hi⟩ := hp _ hm
  obtain ⟨b', e', o', its', n', ho', hc', hd', hi'⟩ := hp _ hm'
  show wpAny (model prog w) A (keyLt' (tuples' true) p.1 q.1) (fun r s' => s' = s ∧ r = lexL (kOf k p.1) (kOf k q.1)) (fun _ _ => False) s
  rw [e, e']
  refine PySem.W.kat_lt ho hd ho' hd' ?_
  have := katlex_ints (prog := prog) (w := w) (A := A) (s := s) (b := true) (fin := decide (its.toArray.size < its'.toArray.size)) (Q := fun r s' => s' = s ∧ r = lexL (k b) (k b')) 0 hi hi' ⟨rfl, by
    rw [← lexL'_eq]
    simp [hi.length, hi'.length]⟩
  simpa [kOf] using this
theorem firsts_tup {h : Heap} {k : Addr → List Int} : ∀ {vs : List Value}, (∀ v ∈ vs, ∃ b, v = .ref b ∧ TupOf h b (k b) ∧ k b ≠ []) → ∃ fs : List Value, PySem.W.KatTups h vs fs ∧ fs.length = vs.length ∧ ∀ f ∈ fs, ∃ x t, f = Value.int x t
  | [], _ => ⟨[], PySem.W.KatTups.nil, rfl, fun _ hm => by simp at hm⟩
  | v :: vs, hp => by
    obtain ⟨fs, h1, h2, h3⟩ := firsts_tup (vs := vs) fun v' hm => hp v' (List.mem_cons_of_mem _ hm)
    obtain ⟨b, rfl, ⟨o, its, n, ho, hc, hd, hi⟩, hne⟩ := hp v (List.mem_cons_self ..)
    cases hkb : k b with
    | nil => exact absurd hkb hne
    | cons x r =>
      rw [hkb] at hi
      cases hi with
      | cons x t r' =>
        refine ⟨.int x t :: fs, PySem.W.KatTups.cons ho hc hd (by simp) h1, by simp [h2], fun f hf => ?_⟩
        rcases List.mem_cons.mp hf with rfl | hf
        · exact ⟨x, t, rfl⟩
        · exact h3 f hf
theorem TupOf.keeps {h h' : Heap} {b : Addr} {ns : List Int} (x : TupOf h b ns) (hk : ∀ o, h.get? b = some o → o.cls = .type "tuple" → h'.get? b = some o) : TupOf h' b ns := by
  obtain ⟨o, its, n, ho, hc, hd, hi⟩ := x
  exact ⟨o, its, n, hk o ho hc, hc, hd, hi⟩
theorem tups_sortable {a : Addr} {vs : List Value} {k : Addr → List Int} (h0 : 0 < vs.length) (hp : ∀ v ∈ vs, ∃ b, v = .ref b ∧ TupOf s.heap b (k b) ∧ k b ≠ []) (ha : ∀ o, s.heap.get? a = some o → o.cls ≠ .type "tuple") : SortableO prog w A s a vs fun v u => lexL (kOf k v) (kOf k u) := by
  intro h' keep
  have hp' : ∀ v ∈ vs, ∃ b, v = .ref b ∧ TupOf h' b (k b) ∧ k b ≠ [] := fun v hm => by
    obtain ⟨b, e, x, ne⟩ := hp v hm
    exact ⟨b, e, x.keeps fun o e c => keep b o (fun z => by subst z; exact ha o e c) e, ne⟩
  obtain ⟨fs, h1, h2, h3⟩ := firsts_tup hp'
  refine ⟨tuples' true, fun Q E hq => ?_, tup_cmp fun v hm => let ⟨b, e, x, _⟩ := hp' v hm; ⟨b, e, x⟩⟩
  refine PySem.W.kat_kind (T := .type "int") h1 (by omega) (fun f hm => ?_) (by rfl) ?_
  · obtain ⟨x, t, rfl⟩ := h3 f hm
    exact PySem.W.Looks.now
  · have e : (Value.type "int" != Value.type "tuple") = true := by first | decide +kernel | rfl | decide
    rw [e]
    exact hq
end
section
variable {X : Cx}
theorem refs_of : ∀ {as : List Addr} {us : List Value}, Vals (as.map V.ref) us → us = as.map Value.ref
  | [], _, r => by cases r; rfl
  | a :: as, _, r => by
    rw [List.map_cons] at r
    cases r with
    | cons h t =>
      cases h
      rw [List.map_cons, refs_of t]
theorem cr_sortTI : CallR X (.builtin "sorted") (fun vs H Q => ∃ (a : Addr) (as : List Addr) (k : Addr → List Int), vs = [V.ref a] ∧ SqL X.K H a (as.map V.ref) ∧ (∀ b ∈ as, SqT X.K H b ((k b).map V.int) ∧ k b ≠ []) ∧
  ∀ (bs : List Addr) (p : Addr), bs.Perm as → bs.map k = tsort (as.map k) → H p = none → Q (.ref p) (upd H p (.lst (bs.map V.ref)))) := by
  intro pins s σ H vs us Q I r h
  obtain ⟨a, as, k, rfl, hs, ht, q⟩ := h
  obtain ⟨its, rv, hl, hz⟩ := I.list hs
  rw [Vals.ref1 r]
  have hi := refs_of rv
  subst hi
  have hT : ∀ b ∈ as, TupOf s.heap b (k b) ∧ k b ≠ [] := fun b hb => by
    obtain ⟨z, ne⟩ := ht b hb
    obtain ⟨its, rv, ⟨o, ho, hc, n, hd⟩, _⟩ := I.tuple z
    exact ⟨⟨o, its, n, ho, hc, hd, rv.ints⟩, ne⟩
  have hlen : (as.map Value.ref).length ≤ sizeLine := by rw [List.length_map] at hz ⊢; exact hz
  refine SrtO.sorted_ord (swo_kOf k) hl.isList hlen (fun h2 h₁ a' ha kk => ?_) fun out h1 h2 => ?_
  · refine tups_sortable (s := { s with heap := h₁ }) (by omega) (fun v hm => ?_) fun o e => ?_
    · obtain ⟨b, hb, rfl⟩ := List.mem_map.mp hm
      obtain ⟨x, ne⟩ := hT b hb
      exact ⟨b, rfl, x.keeps fun o e _ => (kk b o e).2, ne⟩
    · have e' : some o = some (seqObj "list" (as.map Value.ref).toArray 0) := e.symm.trans ha
      cases e'
      intro c
      exact absurd (Value.type.inj c) (by decide)
  · have hperm : out.Perm (as.map Value.ref) := h2.perm
    have hrefs : ∀ v ∈ out, ∃ b, v = Value.ref b := fun v hv => by
      obtain ⟨b, _, e⟩ := List.mem_map.mp (hperm.mem_iff.mp hv)
      exact ⟨b, e.symm⟩
    have mk : ∀ l : List Value, (∀ v ∈ l, ∃ b, v = Value.ref b) → ∃ bs : List Addr, l = bs.map Value.ref := fun l => by
      induction l with
      | nil => exact fun _ => ⟨[], rfl⟩
      | cons v l ih =>
        intro hl
        obtain ⟨b, rfl⟩ := hl v List.mem_cons_self
        obtain ⟨bs, rfl⟩ := ih fun u hu => hl u (List.mem_cons_of_mem _ hu)
        exact ⟨b :: bs, rfl⟩
    obtain ⟨bs, rfl⟩ := mk out hrefs
    have hp : bs.Perm as := by
      have := hperm.map (fun v => match v with
        | Value.ref b => b
        | _ => 0)
      simpa [List.map_map, Function.comp_def] using this
    have hu : (bs.map k).Pairwise fun x y => lexL y x = false := by
      rw [List.pairwise_map]
      have h1' : (bs.map Value.ref).Pairwise fun x y => lexL (kOf k y) (kOf k x) = false := h1
      rw [List.pairwise_map] at h1'
      exact h1'
    have key := tsort_of (hp.map k) hu
    obtain ⟨ep, he'⟩ := PyProof.Rows.sortedAll_at s.heap (as.map Value.ref) (bs.map Value.ref).toArray
    have hlen2 : (bs.map V.ref).length ≤ sizeLine := by rw [List.length_map, hp.length_eq]; rw [List.length_map] at hz; exact hz
    have vals : ∀ l : List Addr, Vals (l.map V.ref) (l.map Value.ref) := fun l => by
      induction l with
      | nil => exact .nil
      | cons b l ih => exact .cons rfl ih
    exact ⟨.ref _, upd H (s.heap.objs.size + 1) (.lst (bs.map V.ref)), I.laid (t' := s.toks) (fun _ _ => PyProof.Rows.sortedAll_old) (Nat.le_succ _) ⟨hlen2, bs.map Value.ref, ep, vals bs, he'⟩, rfl, q _ _ hp key (I.hok.fresh (Nat.le_succ _))⟩
end
end MP
end MSrt

section MSrL
set_option Elab.async false
set_option linter.all false
set_option maxRecDepth 100000
set_option autoImplicit false
set_option maxHeartbeats 4000000
/-! MSrL: sorted of lists of whole numbers. -/
namespace MP
open PySem PySem.Spec PyProof.Rows L2
theorem lexL_lt : ∀ a b : List Int, lexL a b = decide (a < b)
  | [], [] => by simp [lexL]
  | [], _ :: _ => by simp [lexL]
  | _ :: _, [] => by simp [lexL]
  | x :: a, y :: b => by
    rw [lexL, lexL_lt a b]
    by_cases e : x = y
    · subst e
      simp [List.cons_lt_cons_iff]
    · simp [e, List.cons_lt_cons_iff]
theorem each_refs {h : Heap} {k : Addr → List Int} : ∀ {as : List Addr}, (∀ b ∈ as, ∃ xs, Reads h (.ref b) (.list ((k b).map .int)) xs) → PySem.W.EachIs (fun v b => ∃ as, Reads h v (.list ((k b).map .int)) as) (as.map Value.ref) as
  | [], _ => .nil
  | b :: as, h => .cons (h b List.mem_cons_self) (each_refs fun c hc => h c (List.mem_cons_of_mem _ hc))
theorem each_self : ∀ {as : List Addr}, PySem.W.EachIs (fun (v : Value) (b : Addr) => v = .ref b) (as.map Value.ref) as
  | [] => .nil
  | b :: as => .cons rfl each_self
theorem each_eq : ∀ {out : List Value} {as : List Addr}, PySem.W.EachIs (fun (v : Value) (b : Addr) => v = .ref b) out as → out = as.map Value.ref
  | _, _, .nil => rfl
  | _, _, .cons e r => by rw [e, each_eq r, List.map_cons]
theorem dpAll_ints {K : PySem.W.Frag} {H : Hp} : ∀ ns : List Int, DpAll K H (ns.map V.int) (ns.map .int)
  | [] => .nil
  | n :: ns => .cons (.int n) (dpAll_ints ns)
section
variable {X : Cx}
theorem cr_sortLI (hu : X.A.units + 64 < cLine) : CallR X (.builtin "sorted") (fun vs H Q => ∃ (a : Addr) (as : List Addr) (k : Addr → List Int), vs = [V.ref a] ∧ SqL X.K H a (as.map V.ref) ∧ (∀ b ∈ as, SqL X.K H b ((k b).map V.int)) ∧
  ∀ (bs : List Addr) (p : Addr), bs.Perm as → bs.map k = tsort (as.map k) → H p = none → Q (.ref p) (upd H p (.lst (bs.map V.ref)))) := by
  intro pins s σ H vs us Q I r h
  obtain ⟨a, as, k, rfl, hs, ht, q⟩ := h
  obtain ⟨its, rv, hl, hz⟩ := I.list hs
  rw [Vals.ref1 r]
  have hi := refs_of rv
  subst hi
  have hlen : (as.map Value.ref).length ≤ sizeLine := by rw [List.length_map] at hz ⊢; exact hz
  have er := each_refs (h := s.heap) (k := k) (as := as) fun b hb => Dp.reads I (.list ((k b).map .int)) (.ref b) (.ref b) (.lst (ht b hb) (dpAll_ints _)) rfl
  refine PySem.W.sorted_data (enc := fun b => .list ((k b).map .int)) hl.isList each_self er (PySem.W.AllAlike.of fun b c => ?_) (PySem.W.Sortable.others fun b => ⟨nofun, fun _ => nofun⟩) (by rw [List.length_map] at hlen; exact hlen) (fun b _ => ?_) fun out h1 h2 => ?_
  · simp [PySem.W.alike, PySem.W.alike_ints]
  · simp [PyData.depth, PySem.W.depth_ints]
    omega
  · have e := each_eq h2
    subst e
    rw [PySem.W.dataLe_rows] at h2 h1 ⊢
    generalize hb : as.mergeSort (fun p q => decide (k p ≤ k q)) = bs at *
    have hp : bs.Perm as := by rw [← hb]; exact List.mergeSort_perm _ _
    have hs : bs.Pairwise fun p q => decide (k p ≤ k q) = true := by
      rw [← hb]
      refine List.pairwise_mergeSort (fun a b c h1 h2 => ?_) (fun a b => ?_) _
      · simp only [decide_eq_true_eq] at h1 h2 ⊢
        exact List.le_trans h1 h2
      · simp only [Bool.or_eq_true, decide_eq_true_eq]
        exact List.le_total _ _
    have hu : (bs.map k).Pairwise fun x y => lexL y x = false := by
      rw [List.pairwise_map]
      refine hs.imp fun {x y} h => ?_
      rw [lexL_lt]
      simp only [decide_eq_true_eq, decide_eq_false_iff_not] at h ⊢
      exact h
    have key := tsort_of (hp.map k) hu
    obtain ⟨ep, he'⟩ := PyProof.Rows.sortedAll_at s.heap (as.map Value.ref) (bs.map Value.ref).toArray
    have hlen2 : (bs.map V.ref).length ≤ sizeLine := by rw [List.length_map, hp.length_eq]; rw [List.length_map] at hz; exact hz
    have vals : ∀ l : List Addr, Vals (l.map V.ref) (l.map Value.ref) := fun l => by
      induction l with
      | nil => exact .nil
      | cons b l ih => exact .cons rfl ih
    exact ⟨.ref _, upd H (s.heap.objs.size + 1) (.lst (bs.map V.ref)), I.laid (t' := s.toks) (fun _ _ => PyProof.Rows.sortedAll_old) (Nat.le_succ _) ⟨hlen2, bs.map Value.ref, ep, vals bs, he'⟩, rfl, q _ _ hp key (I.hok.fresh (Nat.le_succ _))⟩
/-! ### rows of rows -/
theorem eqv_ints : ∀ a b : List Int, PyData.eqv (.tuple (a.map .int)) (.tuple (b.map .int)) = true ↔ a = b := fun a b => by
  have h : ∀ a b : List Int, PyData.eqvAll (a.map .int) (b.map .int) = true ↔ a = b := fun a => by
    induction a with
    | nil => intro b; cases b <;> simp [PyData.eqvAll]
    | cons x a ih =>
      intro b
      cases b with
      | nil => simp [PyData.eqvAll]
      | cons y b => simp [PyData.eqvAll, PyData.eqv, ih b]
  show PyData.eqvAll _ _ = true ↔ _
  exact h a b
theorem lt_rowsT : ∀ x y : List (List Int), PySem.W.rowLt (x.map fun r => .tuple (r.map .int)) (y.map fun r => .tuple (r.map .int)) = lex2 x y
  | [], [] => PyProof.Rows.lex_irrefl _
  | [], y :: ys => by
    unfold PySem.W.rowLt
    rw [List.map_cons, PySem.W.toks_all_cons]
    simp only [List.map_nil, PySem.W.keyToksAll]
    rw [PyProof.Rows.lex_diff (O := itemOrd) (by simp)]
    rfl
  | x :: xs, [] => by
    unfold PySem.W.rowLt
    rw [List.map_cons, PySem.W.toks_all_cons]
    simp only [List.map_nil, PySem.W.keyToksAll]
    rw [PyProof.Rows.lex_diff (O := itemOrd) (by simp)]
    rfl
  | x :: xs, y :: ys => by
    have ih := lt_rowsT xs ys
    unfold PySem.W.rowLt at ih ⊢
    rw [List.map_cons, List.map_cons, PySem.W.dataLt_cons (by simp [PySem.W.alike, PySem.W.alike_ints]), lex2, ih, PySem.W.dataLt_tuple]
    have e : PyProof.Rows.lexLt itemOrd (PySem.W.keyToksAll (x.map .int)) (PySem.W.keyToksAll (y.map .int)) = lexL x y := by
      rw [lexL_lt]
      exact PySem.W.dataLt_ints x y
    rw [e]
    by_cases h : x = y
    · rw [if_pos h, if_pos ((eqv_ints x y).mpr h)]
    · rw [if_neg h, if_neg fun z => h ((eqv_ints x y).mp z)]
theorem alike_rowsT : ∀ x y : List (List Int), PySem.W.alikeAll (x.map fun r => .tuple (r.map .int)) (y.map fun r => .tuple (r.map .int)) = true
  | [], _ => by simp [PySem.W.alikeAll]
  | _ :: _, [] => by simp [PySem.W.alikeAll]
  | x :: xs, y :: ys => by
    rw [List.map_cons, List.map_cons, PySem.W.alikeAll, alike_rowsT xs ys]
    simp [PySem.W.alike, PySem.W.alike_ints]
theorem depth_rowsT : ∀ x : List (List Int), PyData.depthAll (x.map fun r => .tuple (r.map .int)) ≤ 1
  | [] => by simp [PyData.depthAll]
  | x :: xs => by
    rw [List.map_cons, PyData.depthAll]
    have := depth_rowsT xs
    simp only [PyData.depth, PySem.W.depth_ints]
    omega
theorem cr_sortTT (hu : X.A.units + 64 < cLine) : CallR X (.builtin "sorted") (fun vs H Q => ∃ (a : Addr) (as : List Addr) (k : Addr → List (List Int)), vs = [V.ref a] ∧ SqL X.K H a (as.map V.ref) ∧ (∀ b ∈ as, Dp X.K H (V.ref b) (tblD (k b)) ∧ k b ≠ []) ∧
  ∀ (bs : List Addr) (p : Addr), bs.Perm as → bs.map k = ttsort (as.map k) → H p = none → Q (.ref p) (upd H p (.lst (bs.map V.ref)))) := by
  intro pins s σ H vs us Q I r h
  obtain ⟨a, as, k, rfl, hs, ht, q⟩ := h
  obtain ⟨its, rv, hl, hz⟩ := I.list hs
  rw [Vals.ref1 r]
  have hi := refs_of rv
  subst hi
  have hlen : (as.map Value.ref).length ≤ sizeLine := by rw [List.length_map] at hz ⊢; exact hz
  have er : ∀ {as : List Addr}, (∀ b ∈ as, Dp X.K H (V.ref b) (tblD (k b)) ∧ k b ≠ []) → PySem.W.EachIs (fun v b => ∃ as, Reads s.heap v (tblD (k b)) as) (as.map Value.ref) as := fun {as} => by
    induction as with
    | nil => exact fun _ => .nil
    | cons b as ih => exact fun h => .cons (Dp.reads I _ (.ref b) (.ref b) (h b List.mem_cons_self).1 rfl) (ih fun c hc => h c (List.mem_cons_of_mem _ hc))
  refine PySem.W.sorted_data (enc := fun b => tblD (k b)) hl.isList each_self (er ht) (PySem.W.AllAlike.of fun b c => ?_) (.inl fun d hd => ?_) (by rw [List.length_map] at hlen; exact hlen) (fun b _ => ?_) fun out h1 h2 => ?_
  · show PySem.W.alikeAll _ _ = true
    exact alike_rowsT _ _
  · obtain ⟨b, hb, rfl⟩ := List.mem_map.mp hd
    have ne := (ht b hb).2
    cases e : k b with
    | nil => exact absurd e ne
    | cons x r => exact ⟨_, _, by rw [tblD, List.map_cons]⟩
  · have := depth_rowsT (k b)
    simp only [tblD, PyData.depth]
    omega
  · have e := each_eq h2
    subst e
    have el : PySem.W.dataLe false (fun b => tblD (k b)) = fun b c => !lex2 (k c) (k b) := by
      funext b c
      show (!PySem.W.dataLt (tblD (k c)) (tblD (k b))) = _
      rw [tblD, tblD, PySem.W.dataLt_tuple]
      exact congrArg _ (lt_rowsT _ _)
    rw [el] at h1 ⊢
    have key : (as.mergeSort fun b c => !lex2 (k c) (k b)).map k = ttsort (as.map k) := List.map_mergeSort (fun _ _ _ _ => rfl)
    have hp : (as.mergeSort fun b c => !lex2 (k c) (k b)).Perm as := List.mergeSort_perm _ _
    generalize (as.mergeSort fun b c => !lex2 (k c) (k b)) = bs at *
    obtain ⟨ep, he'⟩ := PyProof.Rows.sortedAll_at s.heap (as.map Value.ref) (bs.map Value.ref).toArray
    have hlen2 : (bs.map V.ref).length ≤ sizeLine := by rw [List.length_map, hp.length_eq]; rw [List.length_map] at hz; exact hz
    have vals : ∀ l : List Addr, Vals (l.map V.ref) (l.map Value.ref) := fun l => by
      induction l with
      | nil => exact .nil
      | cons b l ih => exact .cons rfl ih
    exact ⟨.ref _, upd H (s.heap.objs.size + 1) (.lst (bs.map V.ref)), I.laid (t' := s.toks) (fun _ _ => PyProof.Rows.sortedAll_old) (Nat.le_succ _) ⟨hlen2, bs.map Value.ref, ep, vals bs, he'⟩, rfl, q _ _ hp key (I.hok.fresh (Nat.le_succ _))⟩
end
end MP
end MSrL

section MVal
set_option Elab.async false
set_option linter.all false
set_option maxRecDepth 100000
set_option autoImplicit false
set_option maxHeartbeats 1000000
/-! MVal: the operations by values: what the machine does on values that lie as MPy's data do. -/
namespace MP
open PySem PySem.Spec PyProof.Rows L2
variable [Cla]

section
variable {W0 W : Wd} {H0 H : Hp} {st : Store}
/-- the world as it is, at a value's end -/
structure Now (W0 : Wd) (H0 : Hp) (W : Wd) (st : Store) (H : Hp) : Prop where
  x : Ext W0 H0 W H
  g : Gd W st H
/-- all that may be wished of a value -/
def Fin (W0 : Wd) (H0 : Hp) (st : Store) (d : D) (Q : V → Hp → Prop) : Prop := ∀ W' H' z, Ext W0 H0 W' H' → Gd W' st H' → DR H0 W' H' z d → Q z H'
theorem Fin.here {d : D} {Q : V → Hp → Prop} (f : Fin W0 H0 st d Q) (n : Now W0 H0 W st H) {z : V} (r : DR H0 W H z d) : Q z H := f W H z n.x n.g r
theorem Fin.tup {ds : List PyData} {Q : V → Hp → Prop} (f : Fin W0 H0 st (.dat (.tuple ds)) Q) (n : Now W0 H0 W st H) {vs : List V} (r : DvAll W.im H vs ds) : NewT H vs Q := fun p ob hp hd => by
  have y : Ext W H W (upd H p (.frz ob (.tup vs))) := Ext.lay hp
  have all : DvAll (W.addI p).im (upd H p (.frz ob (.tup vs))) vs ds := (y.all r).own
  exact f (W.addI p) _ _ ((n.x.trans y).own (n.x.fresh hp)) ((n.g.lay hp).own (Loose.lay n.g hp)) (.tup (.inl rfl) (StT.new hd) all)
theorem Fin.lst {ds : List PyData} {Q : V → Hp → Prop} (f : Fin W0 H0 st (.newL ds) Q) (n : Now W0 H0 W st H) {vs : List V} (r : DvAll W.im H vs ds) {p : Addr} (hp : H p = none) : Q (.ref p) (upd H p (.lst vs)) :=
  f W _ _ (n.x.trans (Ext.lay hp)) (n.g.lay hp) ⟨p, vs, rfl, upd_same, Loose.lay n.g hp, n.x.fresh hp, (Ext.lay hp).all r⟩
theorem Vw.int {v : V} {i : Int} (h : Vw W H v (.int i)) : v = .int i := by cases (show Dv W.im H v (.int i) from h); rfl
theorem Vw.bool {v : V} {i : Bool} (h : Vw W H v (.bool i)) : v = .bl i := by cases (show Dv W.im H v (.bool i) from h); rfl
theorem Vw.str {v : V} {i : Str} (h : Vw W H v (.str i)) : v = .str i := by cases (show Dv W.im H v (.str i) from h); rfl
theorem Vw.none {v : V} (h : Vw W H v .none) : v = .non := by cases (show Dv W.im H v .none from h); rfl
theorem Vw.tup {v : V} {ds : List PyData} (h : Vw W H v (.tuple ds)) : ∃ a vs, v = .ref a ∧ Rd H a (.tup vs) ∧ DvAll W.im H vs ds := by
  cases (show Dv W.im H v (.tuple ds) from h) with
  | tup i r q => exact ⟨_, _, rfl, r.rd, q⟩
theorem Vw.tupS {v : V} {ds : List PyData} (h : Vw W H v (.tuple ds)) : ∃ a vs, v = .ref a ∧ StT H a vs ∧ DvAll W.im H vs ds := by
  cases (show Dv W.im H v (.tuple ds) from h) with
  | tup i r q => exact ⟨_, _, rfl, r, q⟩
end

/-! ### two values -/
def rV2 (f : PyData → PyData → Option D) : R2 := fun x y H Q => ∃ W0 H0 W st u v d, Now W0 H0 W st H ∧ Vw W H x u ∧ Vw W H y v ∧ f u v = some d ∧ Fin W0 H0 st d Q
theorem rV2.of_at {Fx : FX} {f : PyData → PyData → Option D} {W0 W : Wd} {H0 H H1 H2 : Hp} {st : Store} {Q : V → Hp → Prop} {d1 d2 : D} {x y : V}
    (h : At Fx W0 H0 DR (do
      let u ← look d1
      let v ← look d2
      ofO (f u v)) W H st Q) (r1 : DR H1 W H x d1) (r2 : DR H2 W H y d2) : rV2 f x y H Q := by
  obtain ⟨u, hu, h⟩ := h.look r1
  obtain ⟨v, hv, h⟩ := h.look r2
  obtain ⟨d, e, h⟩ := h.ofO'
  exact ⟨W0, H0, W, st, u, v, d, ⟨h.1, h.2.1⟩, hu, hv, e, h.pure⟩
def bopOp : Bop → Operator
  | .add => .Add
  | .sub => .Sub
  | .mul => .Mult
  | .fdiv => .FloorDiv
  | .mod => .Mod
  | .pow => .Pow
section
variable {X : Cx}
theorem rd_lst {pins : List (Addr × Obj)} {s : Shared} {σ : L2.St} {H : Hp} (I : Inv X pins σ H s) {a : Addr} {vs : List V} (r : Rd H a (.lst vs)) :
    ∃ (its : List Value) (n : Nat), Vals vs its ∧ vs.length = its.length ∧ s.heap.get? a = some { cls := .type "list", data := .seq its.toArray n } ∧ vs.length ≤ sizeLine := by
  obtain ⟨z, its, n, q, e⟩ := r.ok I.hok
  exact ⟨its, n, q, q.length, e, z⟩
/-- lists put behind one another -/
theorem or_catL : OpR X (binaryOp .Add) (fun x y H Q => ∃ a b us vs, x = .ref a ∧ y = .ref b ∧ Rd H a (.lst us) ∧ Rd H b (.lst vs) ∧ us.length + vs.length ≤ sizeLine ∧ ∀ p, H p = none → Q (.ref p) (upd H p (.lst (us ++ vs)))) := by
  intro pins s σ H x y v u Q I rx ry h
  obtain ⟨a, b, us, vs, rfl, rfl, ra, rb, hz, q⟩ := h
  cases rx
  cases ry
  obtain ⟨i1, n1, r1, l1, e1, _⟩ := rd_lst I ra
  obtain ⟨i2, n2, r2, l2, e2, _⟩ := rd_lst I rb
  refine PySem.P.add_list e1 e2 ?_ (by simp only [List.size_toArray]; omega)
  rw [show i1.toArray ++ i2.toArray = (i1 ++ i2).toArray by simp]
  exact ⟨.ref _, _, I.lnew (t' := s.toks) (r1.append r2) (by simp only [List.length_append]; exact hz), rfl, q _ I.fresh⟩
theorem tuple_mul_same (l : Addr) (items : Array Value) (n : Nat) (dd : Option Addr) (sl : Array (Option Value)) (x : Int) (u : Tok) (c0 : (decide (x < -(2 ^ 63)) || decide (x ≥ 2 ^ 63)) = false) (c1 : (items.isEmpty || x == 1) = true) :
    Meets (Builtin.«tuple.__mul__» ⟨[.ref l, .int x u], []⟩) (fun _ R s => s.heap.get? l = some { cls := .type "tuple", dict := dd, data := .seq items n, slots := sl } ∧ R (.ok (.ret (Value.ref l))) s) :=
  .of_wp fun prog w A R s h => by
    obtain ⟨hp, g, d, tk, os⟩ := s
    obtain ⟨hl, h⟩ := h
    have f1 := AutoSeq1.idx_int
    wp_walk using PySem.AutoSeq1.wpAny_loadPart' hl
    repeat (first
      | (refine wpAny_ite_false (decide_eq_false (by rw [c0]; exact Bool.false_ne_true)) ?_; wp_walk using PySem.AutoSeq1.wpAny_loadPart' hl)
      | (refine wpAny_ite_true (decide_eq_true (by rw [c1])) ?_; wp_walk using PySem.AutoSeq1.wpAny_loadPart' hl))
    all_goals exact ⟨_, rfl, h⟩
theorem tuple_mul_none (l : Addr) (items : Array Value) (n : Nat) (dd : Option Addr) (sl : Array (Option Value)) (x : Int) (u : Tok) (c0 : (decide (x < -(2 ^ 63)) || decide (x ≥ 2 ^ 63)) = false) (c1 : (items.isEmpty || x == 1) = false)
    (c2 : (decide (x ≤ 0) || items.isEmpty) = true) :
    Meets (Builtin.«tuple.__mul__» ⟨[.ref l, .int x u], []⟩) (fun _ R s => s.heap.get? l = some { cls := .type "tuple", dict := dd, data := .seq items n, slots := sl } ∧
      R (.ok (.ret (Value.ref s.heap.objs.size))) { s with heap := s.heap.push { cls := Value.type "tuple", data := Data.seq #[] }, toks := s.toks }) :=
  .of_wp fun prog w A R s h => by
    obtain ⟨hp, g, d, tk, os⟩ := s
    obtain ⟨hl, h⟩ := h
    have f1 := AutoSeq1.idx_int
    wp_walk using PySem.AutoSeq1.wpAny_loadPart' hl
    repeat (first
      | (refine wpAny_ite_false (decide_eq_false (by rw [c0]; exact Bool.false_ne_true)) ?_; wp_walk using PySem.AutoSeq1.wpAny_loadPart' hl)
      | (refine wpAny_ite_false (decide_eq_false (by rw [c1]; exact Bool.false_ne_true)) ?_; wp_walk using PySem.AutoSeq1.wpAny_loadPart' hl)
      | (refine wpAny_ite_true (decide_eq_true (by rw [c2])) ?_; wp_walk using PySem.AutoSeq1.wpAny_loadPart' hl))
    all_goals exact ⟨_, rfl, h⟩
/-- a tuple times an int -/
theorem or_mulT : OpR X (binaryOp .Mult) (fun x y H Q => ∃ l k vs, x = .ref l ∧ y = .int k ∧ StT H l vs ∧ -1000 ≤ k ∧ k ≤ 1000 ∧ vs.length ≤ 1000 ∧ ((vs = [] ∨ k = 1) → Q (.ref l) H) ∧
    (vs ≠ [] → k ≠ 1 → NewT H (List.replicate k.toNat vs).flatten Q)) := by
  rintro pins s σ H x y v u Q I rx ry ⟨l, k, vs, rfl, rfl, hT, h1, h2, hz, q1, q2⟩
  cases rx
  obtain ⟨t, rfl⟩ := ry
  obtain ⟨its, r, ⟨⟨cls, dd, data, sl⟩, ho, hc, n, hd⟩, _, hl⟩ := tup_at I hT
  simp only at hc hd
  subst hc hd
  have c0 : (decide (k < -(2 ^ 63)) || decide (k ≥ 2 ^ 63)) = false := by
    rw [decide_eq_false (by omega), decide_eq_false (by omega)] <;> rfl
  have size : its.toArray.size = vs.length := by rw [List.size_toArray, hl]
  by_cases hs : vs = [] ∨ k = 1
  · have c1 : (its.toArray.isEmpty || k == 1) = true := by
      rcases hs with e | e
      · subst e
        cases r
        rfl
      · subst e
        simp
    exact wpAny_binaryOp_repeat_ref (T := "tuple") (U := "int") (by decide) ⟨_, ho, rfl⟩ (fun s' => typeIs_int s' k t) noFill_tuple_mul F.fills_int_mul F.slot_int_rmul repeat_tuple F.slot_int_index.lookup
      (call_meets F.slot_int_rmul (typeIs_int s k t) F.entry_int_rmul (F.args_int_rmul_2 _ _) (int_rmul_tuple k t l its.toArray n dd sl)
        ⟨ho, rfl, ⟨_, ho, rfl⟩, call_meets F.slot_tuple_mul ⟨_, ho, rfl⟩ F.entry_tuple_mul (F.args_tuple_mul_2 _ _) (tuple_mul_same l its.toArray n dd sl k t c0 c1) ⟨ho, ⟨.ref l, H, I, rfl, q1 hs⟩⟩⟩)
  · have n1 : vs ≠ [] := fun e => hs (.inl e)
    have n2 : k ≠ 1 := fun e => hs (.inr e)
    have ne : its.toArray.isEmpty = false := by
      cases r with
      | nil => exact absurd rfl n1
      | cons _ _ => rfl
    have c1 : (its.toArray.isEmpty || k == 1) = false := by rw [ne, Bool.false_or]; exact beq_eq_false_iff_ne.mpr n2
    have len : (List.replicate k.toNat vs).flatten.length ≤ sizeLine := by
      rw [PyProof.Rows.lm_len_rep_flat, sizeLine_eq]
      have : k.toNat * vs.length ≤ 1000 * 1000 := Nat.mul_le_mul (by omega) hz
      omega
    have fin := lay_tup' I (r.rep k.toNat) len (q2 n1 n2)
    by_cases h3 : 2 ≤ k
    · have m : ((its.toArray.size : Nat) : Int) * k ≤ 1000000 := by
        rw [size]
        have : ((vs.length : Nat) : Int) * k ≤ 1000 * k := Int.mul_le_mul_of_nonneg_right (by omega) (by omega)
        omega
      have c2 : (decide (k ≤ 0) || its.toArray.isEmpty) = false := by rw [ne, Bool.or_false]; exact decide_eq_false (by omega)
      have c4 : Builtin.Tuple.tupleTooMany (((its.toArray.size : Nat) : Int) * k) = false := by
        unfold Builtin.Tuple.tupleTooMany
        rw [sizeLine_eq]
        exact decide_eq_false (by omega)
      have len2 : (List.replicate k.toNat its).flatten.length ≤ sizeLine := by
        rw [PyProof.Rows.lm_len_rep_flat] at len ⊢
        rwa [hl]
      refine wpAny_binaryOp_repeat_ref (T := "tuple") (U := "int") (by decide) ⟨_, ho, rfl⟩ (fun s' => typeIs_int s' k t) noFill_tuple_mul F.fills_int_mul F.slot_int_rmul repeat_tuple F.slot_int_index.lookup
        (call_meets F.slot_int_rmul (typeIs_int s k t) F.entry_int_rmul (F.args_int_rmul_2 _ _) (int_rmul_tuple k t l its.toArray n dd sl)
          ⟨ho, rfl, ⟨_, ho, rfl⟩, call_meets F.slot_tuple_mul ⟨_, ho, rfl⟩ F.entry_tuple_mul (F.args_tuple_mul_2 _ _) (tuple_mulW l its.toArray n dd sl k t c0 c1 c2 (by omega) c4 (by rw [size_rep, List.size_toArray]; exact len2)) ⟨ho, ?_⟩⟩)
      rw [size_rep]
      exact fin
    · have c2 : (decide (k ≤ 0) || its.toArray.isEmpty) = true := by rw [decide_eq_true (by omega), Bool.true_or]
      have e0 : ∀ {α : Type} (l : List α), (List.replicate k.toNat l).flatten = [] := fun l => by rw [show k.toNat = 0 by omega]; rfl
      rw [e0] at fin
      exact wpAny_binaryOp_repeat_ref (T := "tuple") (U := "int") (by decide) ⟨_, ho, rfl⟩ (fun s' => typeIs_int s' k t) noFill_tuple_mul F.fills_int_mul F.slot_int_rmul repeat_tuple F.slot_int_index.lookup
        (call_meets F.slot_int_rmul (typeIs_int s k t) F.entry_int_rmul (F.args_int_rmul_2 _ _) (int_rmul_tuple k t l its.toArray n dd sl)
          ⟨ho, rfl, ⟨_, ho, rfl⟩, call_meets F.slot_tuple_mul ⟨_, ho, rfl⟩ F.entry_tuple_mul (F.args_tuple_mul_2 _ _) (tuple_mul_none l its.toArray n dd sl k t c0 c1 c2) ⟨ho, fin⟩⟩)
/-- a list times an int -/
theorem or_mulL : OpR X (binaryOp .Mult) (fun x y H Q => ∃ l k us, x = .ref l ∧ y = .int k ∧ Rd H l (.lst us) ∧ -1000 ≤ k ∧ k ≤ 100000 ∧ us.length * k.toNat ≤ sizeLine ∧
    ∀ p, H p = none → Q (.ref p) (upd H p (.lst (List.replicate k.toNat us).flatten))) := by
  intro pins s σ H x y v u Q I rx ry h
  obtain ⟨l, k, us, rfl, rfl, hL, h1, h2, hz, q⟩ := h
  cases rx
  obtain ⟨t, rfl⟩ := ry
  obtain ⟨its, n, r, hl, e, _⟩ := rd_lst I hL
  have m1 : its.toArray.size * k.toNat ≤ sizeLine := by rw [List.size_toArray, ← hl]; exact hz
  have m2 : ¬ its.toArray.size * k.toNat > (2 ^ 63 - 1) / 8 := by
    have : (sizeLine : Nat) ≤ (2 ^ 63 - 1) / 8 := by decide
    omega
  have m3 : ¬ (!Builtin.List.listFitsIndex k) = true := by
    rw [fitsIndex_both (by omega) (by omega)]
    exact Bool.false_ne_true
  have m4 : ¬ Builtin.List.listTooLong (its.toArray.size * k.toNat) = true := by
    rw [notLongL m1]
    exact Bool.false_ne_true
  have m5 : List.foldl (fun x1 x2 => x1 ++ x2) #[] (List.replicate (if its.toArray.isEmpty = true then 0 else k.toNat) its.toArray) = (List.replicate k.toNat its).flatten.toArray := by
    have f0 : ∀ m : Nat, List.foldl (fun x1 x2 => x1 ++ x2) #[] (List.replicate m its.toArray) = (List.replicate m its).flatten.toArray := fun m => by
      have z := foldl_rep its m []
      rw [List.nil_append] at z
      exact z
    rw [f0]
    cases its with
    | nil => simp
    | cons a r' => rw [if_neg (by simp)]
  refine wpAny_binaryOp_repeat_ref (T := "list") (U := "int") (by decide) ⟨_, e, rfl⟩ (fun s' => typeIs_int s' k t) noFill_list_mul F.fills_int_mul F.slot_int_rmul repeat_list F.slot_int_index.lookup
    (call_meets F.slot_int_rmul (typeIs_int s k t) F.entry_int_rmul (F.args_int_rmul_2 _ _) (int___rmul___int_list k t l its.toArray n)
      ⟨e, rfl, ⟨_, e, rfl⟩, call_meets F.slot_list_mul ⟨_, e, rfl⟩ F.entry_list_mul (F.args_list_mul_2 _ _) (AutoListH.list___mul___list_int_3 l its.toArray n k t m3 m2 m4) ⟨e, ?_⟩⟩)
  rw [m5]
  exact ⟨.ref _, _, I.lnew (t' := s.toks) (r.rep k.toNat) (by rw [PyProof.Rows.lm_len_rep_flat, Nat.mul_comm]; exact hz), rfl, q _ I.fresh⟩
theorem ifS {α : Type} {c : Prop} [Decidable c] {x : Option α} {z : α} (h : (if c then x else none) = some z) : c ∧ x = some z := by
  by_cases q : c
  · rw [if_pos q] at h; exact ⟨q, h⟩
  · rw [if_neg q] at h; cases h
/-- the binary operators -/
theorem or_bop (op : Bop) : OpR X (binaryOp (bopOp op)) (rV2 (bopV op)) := by
  intro pins s σ H x y v u Q I rx ry h
  obtain ⟨W0, H0, W, st, d1, d2, d, n, v1, v2, e, f⟩ := h
  have hsz := sizeLine_eq
  cases op with
  | add =>
    have e : addV d1 d2 = some d := by simpa only [bopV] using e
    unfold addV at e
    split at e
    · cases e; cases v1.int; cases v2.int
      exact op_add pins s σ H _ _ v u Q I rx ry ⟨_, _, rfl, rfl, f.here n (.int _)⟩
    · obtain ⟨hc, e⟩ := ifS e
      cases e; cases v1.str; cases v2.str
      exact op_add_str pins s σ H _ _ v u Q I rx ry ⟨_, _, rfl, rfl, by rw [hsz]; exact hc, f.here n (.str _)⟩
    · obtain ⟨hc, e⟩ := ifS e
      cases e
      obtain ⟨a, us, rfl, r1, q1⟩ := v1.tupS
      obtain ⟨b, ws, rfl, r2, q2⟩ := v2.tupS
      refine op_catS pins s σ H _ _ v u Q I rx ry ⟨a, b, us, ws, rfl, rfl, r1, r2, by rw [hsz, q1.length, q2.length]; exact hc, fun z => ?_, fun z2 => ?_, fun _ _ => f.tup n (q1.append q2)⟩
      · subst z
        cases q1
        exact f.here n (show Dv W.im H (.ref b) _ from (show Dv W.im H (.ref b) _ from v2))
      · subst z2
        cases q2
        exact f.here n (show Dv W.im H (.ref a) _ by simpa using (show Dv W.im H (.ref a) _ from v1))
    · obtain ⟨hc, e⟩ := ifS e
      cases e
      obtain ⟨a, us, rfl, r1, q1⟩ := v1
      obtain ⟨b, ws, rfl, r2, q2⟩ := v2
      exact or_catL pins s σ H _ _ v u Q I rx ry ⟨a, b, us, ws, rfl, rfl, r1, r2, by rw [hsz, q1.length, q2.length]; exact hc, fun p hp => f.lst n (q1.append q2) hp⟩
    · cases e
  | mul =>
    have e : mulV d1 d2 = some d := by simpa only [bopV] using e
    unfold mulV at e
    split at e
    · obtain ⟨hc, e⟩ := ifS e
      cases e; cases v1.int; cases v2.int
      exact op_mulW pins s σ H _ _ v u Q I rx ry ⟨_, _, rfl, rfl, hc, f.here n (.int _)⟩
    · obtain ⟨⟨h1, h2, h3⟩, e⟩ := ifS e
      cases e
      obtain ⟨a, us, rfl, r1, q1⟩ := v1.tupS
      cases v2.int
      refine or_mulT pins s σ H _ _ v u Q I rx ry ⟨a, _, us, rfl, rfl, r1, h1, h2, by rw [q1.length]; exact h3, fun z => ?_, fun _ _ => f.tup n (q1.flatRep _)⟩
      refine f.here n (show Dv W.im H (.ref a) _ from ?_)
      rcases z with z | z
      · subst z
        cases q1
        have e0 : ∀ m : Nat, (List.replicate m ([] : List PyData)).flatten = [] := fun m => by induction m with
          | zero => rfl
          | succ m ih => rw [List.replicate_succ, List.flatten_cons, ih]; rfl
        rw [e0]
        exact v1
      · subst z
        simpa using (show Dv W.im H (.ref a) _ from v1)
    · obtain ⟨⟨h1, h2, h3⟩, e⟩ := ifS e
      cases e
      obtain ⟨a, us, rfl, r1, q1⟩ := v1
      cases v2.int
      exact or_mulL pins s σ H _ _ v u Q I rx ry ⟨a, _, us, rfl, rfl, r1, h1, h2, by rw [hsz, q1.length]; exact h3, fun p hp => f.lst n (q1.flatRep _) hp⟩
    · cases e
  | sub =>
    have e : subV d1 d2 = some d := by simpa only [bopV] using e
    unfold subV at e
    split at e
    · cases e; cases v1.int; cases v2.int
      exact op_sub pins s σ H _ _ v u Q I rx ry ⟨_, _, rfl, rfl, f.here n (.int _)⟩
    · cases e
  | fdiv =>
    have e : fdivV d1 d2 = some d := by simpa only [bopV] using e
    unfold fdivV at e
    split at e
    · obtain ⟨hc, e⟩ := ifS e
      cases e; cases v1.int; cases v2.int
      exact op_fdivW pins s σ H _ _ v u Q I rx ry ⟨_, _, rfl, rfl, hc, f.here n (.int _)⟩
    · cases e
  | mod =>
    have e : modV d1 d2 = some d := by simpa only [bopV] using e
    unfold modV at e
    split at e
    · obtain ⟨hc, e⟩ := ifS e
      cases e; cases v1.int; cases v2.int
      exact op_mod pins s σ H _ _ v u Q I rx ry ⟨_, _, rfl, rfl, hc, f.here n (.int _)⟩
    · cases e
  | pow =>
    have e : powV d1 d2 = some d := by simpa only [bopV] using e
    unfold powV at e
    split at e
    · obtain ⟨hc, e⟩ := ifS e
      cases e; cases v1.int; cases v2.int
      exact op_pow pins s σ H _ _ v u Q I rx ry ⟨_, _, rfl, rfl, hc, f.here n (.int _)⟩
    · cases e
theorem mapS {α β : Type} {o : Option α} {g : α → β} {d : β} (h : o.map g = some d) : ∃ c, o = some c ∧ d = g c := by
  cases o with
  | none => cases h
  | some c => cases h; exact ⟨c, rfl, rfl⟩
def copOp : Cop → CmpOp
  | .eq => .Eq
  | .ne => .NotEq
  | .lt => .Lt
  | .le => .LtE
  | .gt => .Gt
  | .ge => .GtE
  | .isN => .Is
  | .notN => .IsNot
def bolO (o : Option Bool) : Option D := o.map fun b => .dat (.bool b)
theorem bolO_some {o : Option Bool} {d : D} (h : bolO o = some d) : ∃ b, o = some b ∧ d = .dat (.bool b) := by
  cases o with
  | none => cases h
  | some b => cases h; exact ⟨b, rfl, rfl⟩
theorem Vw.reads {pins : List (Addr × Obj)} {s : Shared} {σ : L2.St} {W : Wd} {H : Hp} (I : Inv X pins σ H s) {x : V} {v : Value} {d : PyData} (h : Vw W H x d) (r : RelV x v) (p : d.plain = true) : ∃ as, Reads s.heap v d as :=
  Dp.reads I d x v (h.dp X.K p) r
theorem isNone_of {W : Wd} {H : Hp} {x : V} {d : PyData} (h : Vw W H x d) : decide (x = .non) = isNone d := by
  cases d with
  | none => cases h.none; rfl
  | bool b => cases h.bool; rfl
  | int b => cases h.int; rfl
  | str b => cases h.str; rfl
  | list ds => obtain ⟨a, vs, rfl, _, _⟩ := h; rfl
  | tuple ds => obtain ⟨a, vs, rfl, _, _⟩ := h.tup; rfl
  | dict kvs =>
    cases (show Dv W.im H x (.dict kvs) from h) <;> rfl
/-- comparisons -/
theorem or_cop (hu : X.A.units + 64 < cLine) (op : Cop) : OpR X (compareOp (copOp op)) (rV2 fun x y => bolO (copV op x y)) := by
  intro pins s σ H x y v u Q I rx ry h
  obtain ⟨W0, H0, W, st, d1, d2, d, n, v1, v2, e, f⟩ := h
  obtain ⟨b, e', rfl⟩ := bolO_some e
  replace e := e'
  clear e'
  have eqs : ∀ p, cmpE p d1 d2 = some b → ∃ as bs, Reads s.heap v d1 as ∧ Reads s.heap u d2 bs ∧ d1.plain = true ∧ d2.plain = true ∧ X.A.units + min d1.depth d2.depth < cLine ∧ b = p (PyData.eqv d1 d2) := fun p e => by
    unfold cmpE at e
    obtain ⟨hc, e⟩ := ifS e
    cases e
    rw [Bool.and_eq_true] at hc
    have p1 := shal_plain _ _ hc.1
    have p2 := shal_plain _ _ hc.2
    have q1 := shal_depth _ _ hc.1
    obtain ⟨as, r1⟩ := v1.reads I rx p1
    obtain ⟨bs, r2⟩ := v2.reads I ry p2
    exact ⟨as, bs, r1, r2, p1, p2, by omega, rfl⟩
  have hint : ∀ p, cmpI p d1 d2 = some b → ∃ i j, x = .int i ∧ y = .int j ∧ b = p i j := fun p e => by
    unfold cmpI at e
    split at e
    · cases e; cases v1.int; cases v2.int; exact ⟨_, _, rfl, rfl, rfl⟩
    · cases e
  have nons : ∀ p, cmpN p d1 d2 = some b → (y = .non ∧ b = p (decide (x = .non))) ∨ ∃ c1 c2, x = .bl c1 ∧ y = .bl c2 ∧ b = p (decide (c1 = c2)) := fun p e => by
    unfold cmpN at e
    split at e
    · cases e; exact .inr ⟨_, _, v1.bool, v2.bool, rfl⟩
    · cases e; cases v2.none; exact .inl ⟨rfl, by rw [isNone_of v1]⟩
    · cases e
  have q : Q (.bl b) H := f.here n (.bl b)
  have fin : EP X pins σ Q (.bool b) s := ⟨.bl b, H, I, rfl, q⟩
  cases op with
  | eq =>
    obtain ⟨as, bs, r1, r2, p1, p2, hd, eb⟩ := eqs _ (show _ = some b from e)
    exact SeqAt.eq_plain r1 r2 p1 p2 hd (by rw [← show b = PyData.eqv d1 d2 from eb]; exact fin)
  | ne =>
    obtain ⟨as, bs, r1, r2, p1, p2, hd, eb⟩ := eqs _ (show _ = some b from e)
    exact SeqAt.ne_plain r1 r2 p1 p2 hd (by rw [← show b = (!PyData.eqv d1 d2) from eb]; exact fin)
  | lt =>
    obtain ⟨i, j, rfl, rfl, eb⟩ := hint _ (show _ = some b from e)
    exact op_lt pins s σ H _ _ v u Q I rx ry ⟨_, _, rfl, rfl, by subst eb; exact q⟩
  | le =>
    obtain ⟨i, j, rfl, rfl, eb⟩ := hint _ (show _ = some b from e)
    exact op_le pins s σ H _ _ v u Q I rx ry ⟨_, _, rfl, rfl, by subst eb; exact q⟩
  | gt =>
    obtain ⟨i, j, rfl, rfl, eb⟩ := hint _ (show _ = some b from e)
    exact op_gt pins s σ H _ _ v u Q I rx ry ⟨_, _, rfl, rfl, by subst eb; exact q⟩
  | ge =>
    obtain ⟨i, j, rfl, rfl, eb⟩ := hint _ (show _ = some b from e)
    exact op_ge pins s σ H _ _ v u Q I rx ry ⟨_, _, rfl, rfl, by subst eb; exact q⟩
  | isN =>
    rcases nons _ (show _ = some b from e) with ⟨rfl, eb⟩ | ⟨c1, c2, rfl, rfl, eb⟩
    · exact op_isN pins s σ H _ _ v u Q I rx ry ⟨rfl, by have eb' : b = decide (x = .non) := eb; subst eb'; exact q⟩
    · exact op_is_bl pins s σ H _ _ v u Q I rx ry ⟨c1, c2, rfl, rfl, by have eb' : b = decide (c1 = c2) := eb; subst eb'; exact q⟩
  | notN =>
    rcases nons _ (show _ = some b from e) with ⟨rfl, eb⟩ | ⟨c1, c2, rfl, rfl, eb⟩
    · exact op_notN pins s σ H _ _ v u Q I rx ry ⟨rfl, by have eb' : b = (!decide (x = .non)) := eb; subst eb'; exact q⟩
    · exact op_isnot_bl pins s σ H _ _ v u Q I rx ry ⟨c1, c2, rfl, rfl, by have eb' : b = (!decide (c1 = c2)) := eb; subst eb'; exact q⟩
/-- x in xs, x not in xs -/
theorem or_in (hu : X.A.units + 64 < cLine) (ng : Bool) : OpR X (compareOp (if ng then .NotIn else .In)) (rV2 fun x y => bolO ((inV x y).map fun b => if ng then !b else b)) := by
  intro pins s σ H x y v u Q I rx ry h
  obtain ⟨W0, H0, W, st, d1, d2, d, n, v1, v2, e, f⟩ := h
  obtain ⟨b, e', rfl⟩ := bolO_some (show bolO ((inV d1 d2).map fun b => if ng then !b else b) = some d from e)
  replace e := e'
  clear e'
  have q : Q (.bl b) H := f.here n (.bl b)
  have fin : EP X pins σ Q (.bool b) s := ⟨.bl b, H, I, rfl, q⟩
  obtain ⟨c, ec, rfl⟩ := mapS e
  unfold inV at ec
  split at ec
  · rename_i xs
    obtain ⟨hc, ec⟩ := ifS ec
    cases ec
    rw [Bool.and_eq_true] at hc
    have p1 := shal_plain _ _ hc.1
    have p2 := shalAll_plain _ _ hc.2
    have q1 := shal_depth _ _ hc.1
    obtain ⟨as, r1⟩ := v1.reads I rx p1
    obtain ⟨bs, r2⟩ := v2.reads I ry (by simpa only [PyData.plain] using p2)
    cases ng with
    | true => exact SeqAt.notIn_list_data r2 r1 p2 p1 (by omega) fin
    | false => exact SeqAt.in_list_data r2 r1 p2 p1 (by omega) fin
  · rename_i xs
    obtain ⟨hc, ec⟩ := ifS ec
    cases ec
    rw [Bool.and_eq_true] at hc
    have p1 := shal_plain _ _ hc.1
    have p2 := shalAll_plain _ _ hc.2
    have q1 := shal_depth _ _ hc.1
    obtain ⟨as, r1⟩ := v1.reads I rx p1
    obtain ⟨bs, r2⟩ := v2.reads I ry (by simpa only [PyData.plain] using p2)
    cases ng with
    | true => exact SeqAt.notIn_tuple_data r2 r1 p2 p1 (by omega) fin
    | false => exact SeqAt.in_tuple_data r2 r1 p2 p1 (by omega) fin
  · cases ec
/-- an item -/
theorem ixPl_eq (n : Nat) (i : Int) : ixPl n i = ixN n i := rfl
theorem ir_idx : IxR X (rV2 fun x y => (idxV x y).map .dat) := by
  intro value slice pins s σ H x y v u Q I rx ry h hs
  obtain ⟨W0, H0, W, st, d1, d2, d, n, v1, v2, e, f⟩ := h
  obtain ⟨c, ec, rfl⟩ := mapS e
  have key : ∀ {vs : List V} {ds : List PyData} {i : Int}, DvAll W.im H vs ds → ((ixPl ds.length i).bind fun j => ds[j]?) = some c → ∃ z, atI vs i = some z ∧ Dv W.im H z c := fun {vs ds i} r e => by
    obtain ⟨j, e1, e2⟩ := Option.bind_eq_some_iff.mp e
    obtain ⟨z, h1, h2⟩ := r.get e2
    refine ⟨z, ?_, h2⟩
    unfold atI
    rw [r.length, ← ixPl_eq, e1]
    exact h1
  unfold idxV at ec
  split at ec
  · obtain ⟨a, vs, rfl, r, q⟩ := v1
    cases v2.int
    obtain ⟨z, h1, h2⟩ := key q ec
    exact ix_list value slice pins s σ H _ _ v u Q I rx ry ⟨a, vs, _, z, rfl, rfl, .inl r, h1, f.here n h2⟩ hs
  · obtain ⟨a, vs, rfl, r, q⟩ := v1.tup
    cases v2.int
    obtain ⟨z, h1, h2⟩ := key q ec
    exact ix_tup value slice pins s σ H _ _ v u Q I rx ry ⟨a, vs, _, z, rfl, rfl, .inl r, h1, f.here n h2⟩ hs
  · cases ec
/-- a slice -/
def rVS : V → Option Int → Option Int → Hp → VK → Prop := fun x lo hi H Q => ∃ W0 H0 W st u d, Now W0 H0 W st H ∧ Vw W H x u ∧ MP.cutV u lo hi = some d ∧ Fin W0 H0 st d Q
theorem cut_whole {α : Type} (ds : List α) (lo hi : Option Int) (h : HT.sIx ds.length 0 lo = 0 ∧ HT.sIx ds.length ds.length hi = ds.length) : cut ds lo hi = ds := by
  have e : ∀ n d o, HT.sIx n d o = cutIx n d o := fun n d o => by cases o <;> rfl
  unfold cut
  rw [← e, ← e, h.1, h.2, List.drop_zero, Nat.sub_zero, List.take_length]
theorem sr_cut : SlR X rVS := by
  intro pins s σ H x v vl vu lo hi sl Q I rx hs pl pu h
  obtain ⟨W0, H0, W, st, d1, d, n, v1, e, f⟩ := h
  unfold MP.cutV at e
  split at e
  · cases e
    obtain ⟨a, vs, rfl, r, q⟩ := v1
    exact sl_list pins s σ H _ v vl vu lo hi sl Q I rx hs pl pu ⟨a, vs, rfl, .inl r, fun p hp => f.lst n (q.cut lo hi) hp⟩
  · cases e
    obtain ⟨a, vs, rfl, r, q⟩ := v1.tupS
    refine sl_tupS pins s σ H _ v vl vu lo hi sl Q I rx hs pl pu ⟨a, vs, rfl, r, fun z => ?_, fun _ => f.tup n (q.cut lo hi)⟩
    rw [q.length] at z
    exact f.here n (show Dv W.im H (.ref a) _ by rw [cut_whole _ _ _ z]; exact v1)
  · cases e
/-! ### built-in functions -/
theorem ins_perm (a : Int) : ∀ l : List Int, (ins a l).Perm (a :: l)
  | [] => .refl _
  | b :: r => by
    unfold ins
    by_cases c : a ≤ b
    · rw [if_pos c]
    · rw [if_neg c]
      exact ((ins_perm a r).cons b).trans (List.Perm.swap a b r)
theorem isort_perm : ∀ l : List Int, (isort l).Perm l
  | [] => .refl _
  | a :: r => (ins_perm a (isort r)).trans ((isort_perm r).cons a)
theorem ins_up (a : Int) : ∀ l : List Int, l.Pairwise (· ≤ ·) → (ins a l).Pairwise (· ≤ ·)
  | [], _ => by unfold ins; simp
  | b :: r, h => by
    unfold ins
    have hb := List.pairwise_cons.mp h
    by_cases c : a ≤ b
    · rw [if_pos c]
      refine List.pairwise_cons.mpr ⟨fun x hx => ?_, h⟩
      rcases List.mem_cons.mp hx with e | e
      · subst e; exact c
      · exact Int.le_trans c (hb.1 x e)
    · rw [if_neg c]
      refine List.pairwise_cons.mpr ⟨fun x hx => ?_, ins_up a r hb.2⟩
      rcases List.mem_cons.mp ((ins_perm a r).mem_iff.mp hx) with e | e
      · subst e; omega
      · exact hb.1 x e
theorem isort_up : ∀ l : List Int, (isort l).Pairwise (· ≤ ·)
  | [] => by unfold isort; simp
  | a :: r => ins_up a _ (isort_up r)
theorem sorted_one : ∀ {l k : List Int}, l.Perm k → l.Pairwise (· ≤ ·) → k.Pairwise (· ≤ ·) → l = k
  | [], k, p, _, _ => by rw [List.nil_perm.mp p]
  | a :: r, [], p, _, _ => by have := p.length_eq; simp at this
  | a :: r, b :: t, p, hl, hk => by
    have h1 := List.pairwise_cons.mp hl
    have h2 := List.pairwise_cons.mp hk
    have e : a = b := by
      have ma : a ∈ b :: t := p.mem_iff.mp List.mem_cons_self
      have mb : b ∈ a :: r := p.mem_iff.mpr List.mem_cons_self
      rcases List.mem_cons.mp ma with e | e
      · exact e
      · rcases List.mem_cons.mp mb with f | f
        · exact f.symm
        · have := h1.1 b f
          have := h2.1 a e
          omega
    subst e
    rw [sorted_one (List.Perm.cons_inv p) h1.2 h2.2]
theorem isort_of {l k : List Int} (p : k.Perm l) (h : k.Pairwise (· ≤ ·)) : k = isort l := sorted_one (p.trans (isort_perm l).symm) h (isort_up l)
section
variable {prog : Program} {w : World} {A : Around} {E : Value → Shared → Prop} {s : Shared}
theorem collect_tup {l : Addr} {vs : List Value} {Q : List Value → Shared → Prop} (hl : IsTup s.heap l vs.toArray)
    (h : Q vs { s with heap := (s.heap.push (seqObj "list" #[] 0)).update s.heap.objs.size (Obj.mapSeq (· ++ vs.toArray)) }) (hsz : vs.length ≤ sizeLine) : wpAny (model prog w) A (collect (.ref l)) Q E s := by
  obtain ⟨o, ho, hc, n, hd⟩ := id hl
  unfold collect
  refine wpAny_bind (wpAny_runValue (codeAny_builtin entry_proto_collect' ?_))
  show wpAny _ _ (do again (.builtin "list.__iadd__" ⟨[← newList [], .ref l], []⟩)) _ _ s
  refine wpAny_bind (wpAny_newList (wpAny_pure ⟨Code.quiet_builtin _ (by decide +kernel), codeAny_builtin entry_list_iadd' ?_⟩))
  show wpAny _ _ (Builtin.List.listExtendWith (.ref s.heap.objs.size) (.ref l) (.ref s.heap.objs.size)) _ _ { s with heap := s.heap.push (seqObj "list" #[] 0) }
  unfold Builtin.List.listExtendWith
  have k1 : (s.heap.push (seqObj "list" #[] 0)).get? l = some o := Heap.get?_push_of_some _ ho
  refine wpAny_bind (wpAny_typeOf (T := "tuple") ⟨o, k1, hc⟩ ?_)
  rw [if_pos (by rw [show (Value.type "tuple" == Value.type "tuple") = true by rfl]; simp)]
  refine wpAny_bind (listItems_at k1 hd ?_)
  refine wpAny_bind (listItems_at (xs := #[]) (n := 0) (Heap.get?_push_size _ rfl) rfl ?_)
  rw [if_neg (by simp)]
  refine wpAny_bind (listUpdate_at (xs := #[]) (n := 0) (Heap.get?_push_size _ rfl) rfl ?_ (Nat.zero_le _) (by show (#[] ++ vs.toArray).size ≤ sizeLine + 1; simp only [Array.size_append, List.size_toArray, List.length_nil]; omega))
  refine wpAny_pure ?_
  refine wpAny_bind (wpAny_load (get?_update_seq (Heap.get?_push_size _ rfl) _) ?_)
  show wpAny _ _ (pure ((#[] : Array Value) ++ vs.toArray).toList) Q E _
  rw [show ((#[] : Array Value) ++ vs.toArray).toList = vs by simp]
  exact wpAny_pure h
theorem sorted_tup {l : Addr} {vs : List Value} {ns : List Int} {Q : Value → Shared → Prop} (hl : IsTup s.heap l vs.toArray) (hi : IntsAre vs ns) (hz : vs.length ≤ sizeLine)
    (h : ∀ out : List Value, SrtO.Srtd SrtO.ltIv out → SrtO.Stb SrtO.ltIv out vs → Q (.ref (s.heap.objs.size + 1)) { s with heap := sortedAll s.heap vs out.toArray }) :
    wpAny (model prog w) A (call (.builtin "sorted") [.ref l]) Q E s := by
  refine Calls.call_function_entry kind_sorted plain_sorted entry_sorted (args_sorted1 _) ?_
  unfold Builtin.«sorted»
  refine wpAny_bind (m := checkCount "sorted" 1 1 _) (wpAny_pure ?_)
  refine wpAny_bind (collect_tup hl ?_ hz)
  refine wpAny_bind (wpAny_newList ?_ hz)
  generalize hg : (s.heap.push (seqObj "list" #[] 0)).update s.heap.objs.size (Obj.mapSeq (· ++ vs.toArray)) = g
  have gz : g.objs.size = s.heap.objs.size + 1 := by rw [← hg, Heap.size_update, size_push']
  have gl : (g.push (seqObj "list" vs.toArray 0)).get? (s.heap.objs.size + 1) = some (seqObj "list" vs.toArray 0) := by rw [← gz]; exact Heap.get?_push_size _ rfl
  show wpAny _ _ _ _ _ { s with heap := g.push (seqObj "list" vs.toArray 0) }
  rw [gz]
  refine wpAny_bind (wpAny_holding (wpAny_call_entry slot_list_sort ⟨_, gl, rfl⟩ entry_list_sort (SrtO.list_sort_ord SrtO.swo_int gl hz (fun h2 => SrtO.ints_sortable hi h2) fun out hs hb => ⟨_, rfl, ?_⟩) (args_list_sort _)))
  refine wpAny_pure ⟨_, rfl, ?_⟩
  subst hg
  exact h out hs hb
end
/-- sorted of a tuple of ints -/
theorem cr_sortedT : CallR X (.builtin "sorted") (fun xs H Q => ∃ (a : Addr) (ns : List Int), xs = [.ref a] ∧ Rd H a (.tup (ns.map V.int)) ∧ ∀ (ns' : List Int) (p : Addr), ns'.Perm ns → ns'.Pairwise (· ≤ ·) → H p = none → Q (.ref p) (upd H p (.lst (ns'.map V.int)))) := by
  intro pins s σ H vs us Q I r h
  obtain ⟨a, ns, rfl, hs, q⟩ := h
  obtain ⟨its, rv, hl, hz⟩ := I.tuple (.inl hs)
  rw [Vals.ref1 r]
  have hi := rv.ints
  refine sorted_tup hl hi (by rw [← rv.length]; exact hz) fun out h1 h2 => ?_
  obtain ⟨k1, k2, k3⟩ := SrtO.ints_out hi h1 h2
  obtain ⟨ep, he⟩ := PyProof.Rows.sortedAll_at s.heap its out.toArray
  have hlen : ((out.map SrtO.iv).map V.int).length ≤ sizeLine := by
    rw [List.length_map, k2.length_eq]
    simpa using hz
  refine ⟨.ref _, _, I.laid (t' := s.toks) (a := s.heap.objs.size + 1) (o := .lst ((out.map SrtO.iv).map V.int)) (fun _ _ => PyProof.Rows.sortedAll_old) (Nat.le_succ _) ⟨hlen, out, ep, vals_of_ints k1, he⟩, rfl, q _ _ k2 k3 (I.hok.fresh (Nat.le_succ _))⟩
/-! ### repr -/
mutual
theorem wid_shown : ∀ d : PyData, d.showable = true → d.plain = true → d.shown.length ≤ wid d
  | .none, _, _ => by simp only [wid]; decide
  | .bool b, _, _ => by cases b <;> (simp only [wid]; decide)
  | .int i, h, _ => by
    have q := int_text_length_le (a := i) (k := i.natAbs.log2 + 1) (Nat.succ_pos _) (Nat.lt_succ_self _)
    simp only [wid]
    show (Str.ofString (toString i)).length ≤ _
    rw [PySem.ofString_length]
    omega
  | .str x, _, _ => by simp only [wid, PyData.shown]; exact Nat.le_refl _
  | .list xs, h, p => by
    have q := widAll_shown xs (by simpa only [PyData.showable] using h) (by simpa only [PyData.plain] using p)
    have r := listText_len_le (PyData.shownAll xs)
    simp only [wid, PyData.shown]
    omega
  | .tuple xs, h, p => by
    have q := widAll_shown xs (by simpa only [PyData.showable] using h) (by simpa only [PyData.plain] using p)
    have r := tupleText_len_le (PyData.shownAll xs)
    simp only [wid, PyData.shown]
    omega
  | .dict _, _, p => by simp only [PyData.plain] at p; cases p
theorem widAll_shown : ∀ ds : List PyData, PyData.showableAll ds = true → PyData.plainAll ds = true → ((PyData.shownAll ds).map (·.length)).sum + 2 * (PyData.shownAll ds).length ≤ widAll ds
  | [], _, _ => by simp only [PyData.shownAll, widAll]; decide
  | x :: xs, h, p => by
    simp only [PyData.showableAll, Bool.and_eq_true] at h
    simp only [PyData.plainAll, Bool.and_eq_true] at p
    have h1 := wid_shown x h.1 p.1
    have h2 := widAll_shown xs h.2 p.2
    simp only [PyData.shownAll, widAll, List.map_cons, List.sum_cons, List.length_cons]
    omega
end
mutual
theorem plain_hasDict : ∀ d : PyData, d.plain = true → d.hasDict = false
  | .none, _ => by simp only [PyData.hasDict]
  | .bool _, _ => by simp only [PyData.hasDict]
  | .int _, _ => by simp only [PyData.hasDict]
  | .str _, _ => by simp only [PyData.hasDict]
  | .list xs, p => by simp only [PyData.hasDict]; exact plain_hasDictAll xs (by simpa only [PyData.plain] using p)
  | .tuple xs, p => by simp only [PyData.hasDict]; exact plain_hasDictAll xs (by simpa only [PyData.plain] using p)
  | .dict _, p => by simp only [PyData.plain] at p; cases p
theorem plain_hasDictAll : ∀ ds : List PyData, PyData.plainAll ds = true → PyData.hasDictAll ds = false
  | [], _ => by simp only [PyData.hasDictAll]
  | x :: xs, p => by
    simp only [PyData.plainAll, Bool.and_eq_true] at p
    simp only [PyData.hasDictAll, plain_hasDict x p.1, plain_hasDictAll xs p.2, Bool.or_self]
end
def rVn (f : List PyData → Option D) : List V → Hp → VK → Prop := fun xs H Q => ∃ W0 H0 W st us d, Now W0 H0 W st H ∧ Paired (fun v u => Vw W H v u) xs us ∧ f us = some d ∧ Fin W0 H0 st d Q
theorem vw1 {W : Wd} {H : Hp} {xs : List V} {u : PyData} (h : Paired (fun v u => Vw W H v u) xs [u]) : ∃ x, xs = [x] ∧ Vw W H x u := by
  cases h with
  | cons a b => cases b; exact ⟨_, rfl, a⟩
theorem vw2 {W : Wd} {H : Hp} {xs : List V} {u v : PyData} (h : Paired (fun v u => Vw W H v u) xs [u, v]) : ∃ x y, xs = [x, y] ∧ Vw W H x u ∧ Vw W H y v := by
  cases h with
  | cons a b =>
    cases b with
    | cons c d => cases d; exact ⟨_, _, rfl, a, c⟩
/-- the whole numbers of a tuple in the abstract heap -/
def kH (H : Hp) (b : Addr) : List Int := match H b with
  | some (.frz _ (.tup vs)) => vs.map fun v => match v with
    | .int i => i
    | _ => 0
  | _ => []
theorem kH_of {H : Hp} {b : Addr} {ns : List Int} (e : StT H b (ns.map V.int)) : kH H b = ns := by
  obtain ⟨o, e, _⟩ := e
  unfold kH
  rw [e]
  show (ns.map V.int).map _ = ns
  rw [List.map_map]
  exact List.map_id' ns
theorem tups_at {I : Addr → Prop} {H : Hp} : ∀ {vs : List V} {ds : List PyData} {nss : List (List Int)}, DvAll I H vs ds → allTups ds = some nss → ∃ as : List Addr, vs = as.map V.ref ∧ as.map (kH H) = nss ∧ ∀ b ∈ as, I b ∧ StT H b ((kH H b).map V.int) ∧ kH H b ≠ []
  | _, _, _, .nil, e => by
    unfold allTups at e
    cases e
    exact ⟨[], rfl, rfl, fun _ h => by cases h⟩
  | _, _, nss, .cons (ds := ds) x h, e => by
    cases x with
    | tup i r q =>
      unfold allTups at e
      split at e
      · cases e
      · rename_i hne
        split at e
        · rename_i ns he
          obtain ⟨ms, e', rfl⟩ := mapS e
          obtain ⟨as, rfl, k1, k2⟩ := tups_at h e'
          obtain ⟨rfl, rfl⟩ := q.ints he
          have kb := kH_of r
          refine ⟨_ :: as, rfl, by rw [List.map_cons, k1, kb], fun b hb => ?_⟩
          rcases List.mem_cons.mp hb with rfl | hb
          · refine ⟨i, by rw [kb]; exact r, ?_⟩
            rw [kb]
            intro z
            subst z
            simp at hne
          · exact k2 b hb
        · cases e
    | _ => unfold allTups at e; cases e
theorem dv_tups {I : Addr → Prop} {H : Hp} : ∀ {bs : List Addr}, (∀ b ∈ bs, I b ∧ StT H b ((kH H b).map V.int)) → DvAll I H (bs.map V.ref) ((bs.map (kH H)).map fun ns => .tuple (ns.map .int))
  | [], _ => .nil
  | b :: bs, h => by
    have hb := h b List.mem_cons_self
    exact .cons (.tup hb.1 hb.2 (DvAll.of_ints _)) (dv_tups fun c hc => h c (List.mem_cons_of_mem _ hc))
/-- the whole numbers of a list in the abstract heap -/
def kL (H : Hp) (b : Addr) : List Int := match H b with
  | some (.lst vs) => vs.map fun v => match v with
    | .int i => i
    | _ => 0
  | some (.frz _ (.lst vs)) => vs.map fun v => match v with
    | .int i => i
    | _ => 0
  | _ => []
theorem kL_of {H : Hp} {b : Addr} {ns : List Int} (e : Rd H b (.lst (ns.map V.int))) : kL H b = ns := by
  have h : (ns.map V.int).map (fun v => match v with | .int i => i | _ => 0) = ns := by
    rw [List.map_map]
    exact List.map_id' ns
  unfold kL
  rcases e with e | ⟨o, e⟩
  · rw [e]; exact h
  · rw [e]; exact h
theorem lsts_at {I : Addr → Prop} {H : Hp} : ∀ {vs : List V} {ds : List PyData} {nss : List (List Int)}, DvAll I H vs ds → allLsts ds = some nss → ∃ as : List Addr, vs = as.map V.ref ∧ as.map (kL H) = nss ∧ ∀ b ∈ as, I b ∧ Rd H b (.lst ((kL H b).map V.int))
  | _, _, _, .nil, e => by
    unfold allLsts at e
    cases e
    exact ⟨[], rfl, rfl, fun _ h => by cases h⟩
  | _, _, nss, .cons (ds := ds) x h, e => by
    cases x with
    | lst i r q =>
      unfold allLsts at e
      split at e
      · rename_i ns he
        obtain ⟨ms, e', rfl⟩ := mapS e
        obtain ⟨as, rfl, k1, k2⟩ := lsts_at h e'
        obtain ⟨rfl, rfl⟩ := q.ints he
        have kb := kL_of r
        refine ⟨_ :: as, rfl, by rw [List.map_cons, k1, kb], fun b hb => ?_⟩
        rcases List.mem_cons.mp hb with rfl | hb
        · refine ⟨i, ?_⟩
          rw [kb]
          exact r
        · exact k2 b hb
      · cases e
    | _ => unfold allLsts at e; cases e
theorem dv_lsts {I : Addr → Prop} {H : Hp} : ∀ {bs : List Addr}, (∀ b ∈ bs, I b ∧ Rd H b (.lst ((kL H b).map V.int))) → DvAll I H (bs.map V.ref) ((bs.map (kL H)).map fun ns => .list (ns.map .int))
  | [], _ => .nil
  | b :: bs, h => by
    have hb := h b List.mem_cons_self
    exact .cons (.lst hb.1 hb.2 (DvAll.of_ints _)) (dv_lsts fun c hc => h c (List.mem_cons_of_mem _ hc))
/-- the rows of a tuple in the abstract heap -/
def kT (H : Hp) (b : Addr) : List (List Int) := match H b with
  | some (.frz _ (.tup vs)) => vs.map fun v => match v with
    | .ref c => kH H c
    | _ => []
  | _ => []
theorem rows_at {I : Addr → Prop} {H : Hp} : ∀ {vs : List V} {ds : List PyData} {nss : List (List Int)}, DvAll I H vs ds → allRows ds = some nss → (vs.map fun v => match v with
    | .ref c => kH H c
    | _ => []) = nss ∧ ds = nss.map fun ns => .tuple (ns.map .int)
  | _, _, _, .nil, e => by
    unfold allRows at e
    cases e
    exact ⟨rfl, rfl⟩
  | _, _, nss, .cons (ds := ds) x h, e => by
    cases x with
    | tup i r q =>
      unfold allRows at e
      split at e
      · rename_i ns he
        obtain ⟨ms, e', rfl⟩ := mapS e
        obtain ⟨k1, k2⟩ := rows_at h e'
        obtain ⟨rfl, rfl⟩ := q.ints he
        have kb := kH_of r
        exact ⟨by rw [List.map_cons, k1]; exact congrArg (· :: _) kb, by rw [List.map_cons, ← k2]⟩
      · cases e
    | _ => unfold allRows at e; cases e
theorem kT_of {H : Hp} {b : Addr} {vs : List V} {t : List (List Int)} (e : StT H b vs) (h : (vs.map fun v => match v with
    | .ref c => kH H c
    | _ => []) = t) : kT H b = t := by
  obtain ⟨o, ho, _⟩ := e
  unfold kT
  rw [ho]
  exact h
theorem plain_rows : ∀ t : List (List Int), PyData.plainAll (t.map fun ns => .tuple (ns.map .int)) = true
  | [] => by simp [PyData.plainAll]
  | r :: t => by
    have h : ∀ r : List Int, PyData.plainAll (r.map .int) = true := fun r => by
      induction r with
      | nil => simp [PyData.plainAll]
      | cons x r ih => rw [List.map_cons, PyData.plainAll, ih]; simp [PyData.plain]
    rw [List.map_cons, PyData.plainAll, plain_rows t]
    simp [PyData.plain, h]
theorem tbls_at {I : Addr → Prop} {H : Hp} : ∀ {vs : List V} {ds : List PyData} {ts : List (List (List Int))}, DvAll I H vs ds → allTbls ds = some ts → ∃ as : List Addr, vs = as.map V.ref ∧ as.map (kT H) = ts ∧ ∀ b ∈ as, Dv I H (.ref b) (tblD (kT H b)) ∧ kT H b ≠ []
  | _, _, _, .nil, e => by
    unfold allTbls at e
    cases e
    exact ⟨[], rfl, rfl, fun _ h => by cases h⟩
  | _, _, ts, .cons (ds := ds) x h, e => by
    cases x with
    | tup i r q =>
      unfold allTbls at e
      split at e
      · cases e
      · rename_i hne
        split at e
        · rename_i t he
          obtain ⟨ms, e', rfl⟩ := mapS e
          obtain ⟨as, rfl, k1, k2⟩ := tbls_at h e'
          obtain ⟨q1, rfl⟩ := rows_at q he
          have kb := kT_of r q1
          refine ⟨_ :: as, rfl, by rw [List.map_cons, k1, kb], fun b hb => ?_⟩
          rcases List.mem_cons.mp hb with rfl | hb
          · rw [kb]
            refine ⟨.tup i r q, fun z => ?_⟩
            subst z
            simp at hne
          · exact k2 b hb
        · cases e
    | _ => unfold allTbls at e; cases e
theorem dv_tbls {I : Addr → Prop} {H : Hp} : ∀ {bs : List Addr}, (∀ b ∈ bs, Dv I H (.ref b) (tblD (kT H b))) → DvAll I H (bs.map V.ref) ((bs.map (kT H)).map tblD)
  | [], _ => .nil
  | b :: bs, h => .cons (h b List.mem_cons_self) (dv_tbls fun c hc => h c (List.mem_cons_of_mem _ hc))
/-- dicts of scalars read as data -/
theorem scal_reads {I : Addr → Prop} {H : Hp} {h : Heap} {v : V} {u : Value} {d : PyData} (x : Dv I H v d) (r : RelV v u) (s : isSc d = true) : Reads h u d [] := by
  cases x with
  | non => cases r; exact .none
  | bl b => cases r; exact .bool b
  | int i => obtain ⟨t, rfl⟩ := r; exact .int i t
  | str y => obtain ⟨t, rfl⟩ := r; exact .str y t
  | _ => exact nomatch s
theorem kv_reads {I : Addr → Prop} {H : Hp} {h : Heap} {P : Program} {w : World} : ∀ {ks : List (Key × V)} {kvs : List (PyData × PyData)} {vs : List (Key × Value)} {es : List DictEntry}, DvKv I H ks kvs → KV ks vs → Pairs (mixKind P w) es vs → (kvs.all fun p => isKy p.1 && isSc p.2) = true →
    ReadsAll h (es.map (·.key)) (kvs.map (·.1)) [] ∧ ReadsAll h (es.map (·.val)) (kvs.map (·.2)) []
  | _, _, _, _, .nil, .nil, .nil, _ => ⟨.nil, .nil⟩
  | _, _, _, _, .cons (k := k) x t, .cons (b := b) ⟨e1, e2⟩ t2, .cons (e := en) hk hv t3, hs => by
    rw [List.all_cons, Bool.and_eq_true, Bool.and_eq_true] at hs
    obtain ⟨r1, r2⟩ := kv_reads (h := h) t t2 t3 hs.2
    have ek := keyIs_shape (k := b.1) (v := en.key) hk
    have e1' : k = b.1 := e1
    have a1 : Reads h en.key (keyD k) [] := by
      rcases ek with ⟨i, tk, e3, e4⟩ | ⟨y, tk, e3, e4⟩
      · rw [e4, e1', e3]; exact .int i tk
      · rw [e4, e1', e3]; exact .str y tk
    have a2 := scal_reads (h := h) x e2 hs.1.2
    rw [← hv] at a2
    exact ⟨.cons (as := []) (bs := []) a1 r1, .cons (as := []) (bs := []) a2 r2⟩
theorem depth_sc : ∀ {kvs : List (PyData × PyData)}, (kvs.all fun p => isKy p.1 && isSc p.2) = true → PyData.depthKv kvs = 0
  | [], _ => by simp only [PyData.depthKv]
  | (a, b) :: kvs, h => by
    rw [List.all_cons, Bool.and_eq_true, Bool.and_eq_true] at h
    have := depth_sc h.2
    have h1 : a.depth = 0 := by
      have := h.1.1
      cases a <;> first | (simp only [PyData.depth]; done) | (simp [isKy] at this)
    have h2 : b.depth = 0 := by
      have := h.1.2
      cases b <;> first | (simp only [PyData.depth]; done) | (simp [isSc] at this)
    simp only [PyData.depthKv, this, h1, h2]
    rfl
theorem dict_reads {pins : List (Addr × Obj)} {s : Shared} {X : Cx} {σ : L2.St} {W : Wd} {H : Hp} (I : Inv X pins σ H s) {x : V} {v : Value} {kvs : List (PyData × PyData)} (h : Dv W.im H x (.dict kvs)) (r : RelV x v) (ne : kvs ≠ []) (hs : (kvs.all fun p => isKy p.1 && isSc p.2) = true) :
    ∃ a, v = .ref a ∧ (a == sysModules) = false ∧ Reads s.heap (.ref a) (.dict kvs) [a] := by
  cases h with
  | dctK i e q =>
    cases r
    obtain ⟨_, hm, vs, hv, o, es, ep, h1, h2, h3, _, h4, _⟩ := dk_of I.hok e
    obtain ⟨r1, r2⟩ := kv_reads (h := s.heap) q hv h4 hs
    exact ⟨_, rfl, hm, .dict (as := []) (bs := []) h1 h2.1 h3 r1 r2⟩
  | dctT i e q =>
    cases q with
    | nil => exact absurd rfl ne
    | cons x t =>
      rw [List.all_cons, Bool.and_eq_true, Bool.and_eq_true] at hs
      exact nomatch hs.1.1
/-- the truth of values -/
inductive VT : List V → List Bool → Prop
  | nil : VT [] []
  | non {vs : List V} {bs : List Bool} : VT vs bs → VT (.non :: vs) (false :: bs)
  | bl {vs : List V} {bs : List Bool} (b : Bool) : VT vs bs → VT (.bl b :: vs) (b :: bs)
  | int {vs : List V} {bs : List Bool} (i : Int) : VT vs bs → VT (.int i :: vs) ((i != 0) :: bs)
theorem vt_of {I : Addr → Prop} {H : Hp} : ∀ {vs : List V} {ds : List PyData} {bs : List Bool}, DvAll I H vs ds → truths ds = some bs → VT vs bs
  | _, _, _, .nil, e => by
    unfold truths at e
    cases e
    exact .nil
  | _, _, bs, .cons (ds := ds) x h, e => by
    unfold truths at e
    cases x <;> simp only [truth] at e <;> first | (cases e; done) | skip
    all_goals
      obtain ⟨cs, e', rfl⟩ := mapS e
      have := vt_of h e'
      first | exact .non this | exact .bl _ this | exact .int _ this
theorem VT.at : ∀ {vs : List V} {bs : List Bool} {us : List Value} {i : Nat} {v : Value}, VT vs bs → Vals vs us → us[i]? = some v → (v = .none ∧ bs.getD i false = false) ∨ (∃ b, v = .bool b ∧ bs.getD i false = b) ∨ ∃ j t, v = .int j t ∧ bs.getD i false = (j != 0)
  | _, _, _, i, _, .nil, .nil, e => by simp at e
  | _, _, _, 0, _, .non _, .cons r _, e => by
    simp at e
    subst e
    exact .inl ⟨r, rfl⟩
  | _, _, _, 0, _, .bl b _, .cons r _, e => by
    simp at e
    subst e
    exact .inr (.inl ⟨b, r, rfl⟩)
  | _, _, _, 0, _, .int j _, .cons r _, e => by
    simp at e
    subst e
    obtain ⟨t, rfl⟩ := r
    exact .inr (.inr ⟨j, t, rfl, rfl⟩)
  | _, _, _, i + 1, _, .non h, .cons _ t, e => by simpa using VT.at (i := i) h t (by simpa using e)
  | _, _, _, i + 1, _, .bl _ h, .cons _ t, e => by simpa using VT.at (i := i) h t (by simpa using e)
  | _, _, _, i + 1, _, .int _ h, .cons _ t, e => by simpa using VT.at (i := i) h t (by simpa using e)
theorem VT.length : ∀ {vs : List V} {bs : List Bool}, VT vs bs → vs.length = bs.length
  | _, _, .nil => rfl
  | _, _, .non h => by rw [List.length_cons, List.length_cons, VT.length h]
  | _, _, .bl _ h => by rw [List.length_cons, List.length_cons, VT.length h]
  | _, _, .int _ h => by rw [List.length_cons, List.length_cons, VT.length h]
theorem truth_vt {prog : Program} {w : World} {A : Around} {vs : List V} {bs : List Bool} {its : List Value} (r : Vals vs its) (e : VT vs bs) :
    TruthOf prog w A (fun i v => its.toArray[i]? = some v) (fun i => bs.getD i false) := fun i v s Q E hv hq => by
  have hv' : its[i]? = some v := by simpa using hv
  have hq' : Q (bs.getD i false) s := hq
  rcases e.at r hv' with ⟨rfl, e'⟩ | ⟨b, rfl, e'⟩ | ⟨j, t, rfl, e'⟩ <;> rw [e'] at hq'
  · exact PyProof.Rows.truthy_none hq'
  · exact wpAny_truthy_bool hq'
  · exact PySem.P.truthy_int hq'
theorem iter_tup {prog : Program} {w : World} {A : Around} {E : Value → Shared → Prop} {s : Shared} {l : Addr} {items : Array Value} {Q : Value → Shared → Prop} (hl : s.heap.IsTuple l items)
    (h : ∀ s2 : Shared, s2 = { s with heap := s.heap.push { cls := .type "tuple_iterator", data := .fields #[.ref l, .int 0 0] } } →
      (s2.heap.IsTupleIter s.heap.objs.size l 0 ∧ s2.heap.IsTuple l items) → l ≠ s.heap.objs.size → Q (.ref s.heap.objs.size) s2) : wpAny (model prog w) A (pyIter (.ref l)) Q E s := by
  have hlt : l < s.heap.objs.size := by obtain ⟨_, e, _⟩ := hl; exact Heap.lt_size e
  exact wpAny_pyIter_tuple hl (h _ rfl ⟨⟨_, Heap.get?_push_size _ rfl, rfl, rfl⟩, hl.push _⟩ (Nat.ne_of_lt hlt))
def rQu (K : PySem.W.Frag) (q : List Bool → Bool) : List V → Hp → VK → Prop := fun vs H Q => ∃ (a : Addr) (xs : List V) (bs : List Bool), vs = [V.ref a] ∧ (SqL K H a xs ∨ SqT K H a xs) ∧ VT xs bs ∧ Q (.bl (q bs)) H
theorem cr_anyQ (hc : X.calm = true) : CallR X (.builtin "any") (rQu X.K fun bs => bs.any id) := by
  intro pins s σ H vs us Q I r h
  obtain ⟨a, xs, bs, rfl, hs, vt, q⟩ := h
  rw [Vals.ref1 r]
  rcases hs with hs | hs
  · obtain ⟨its, rv, hl, _⟩ := I.list hs
    refine call_any_walk (iter_any hl.isList fun s2 e2 st hne => ?_)
    subst e2
    refine ⟨_, _, _, _, _, _, _, rfl, Walks.list (A := X.A.in1) (I.ok.hd hc) _ a hne its.toArray, st, truth_vt rv vt, fun h' tk hk => ?_⟩
    refine ⟨.bl _, H, I.kept fun b o eo => hk b o (fun hmem => ?_) (Heap.get?_push_of_some _ eo), ?_, q⟩
    · rcases List.mem_cons.mp hmem with e1 | hmem
      · exact absurd (e1 ▸ Heap.lt_size eo) (Nat.lt_irrefl _)
      · cases hmem
    · show Value.bool _ = Value.bool (bs.any id)
      rw [← L2.any_range, List.size_toArray, ← rv.length, vt.length]
  · obtain ⟨its, rv, hl, _⟩ := I.tuple hs
    refine call_any_walk (iter_tup hl fun s2 e2 st hne => ?_)
    subst e2
    refine ⟨_, _, _, _, _, _, _, rfl, Walks.tuple (A := X.A.in1) (I.ok.hd hc) _ a hne its.toArray, st, truth_vt rv vt, fun h' tk hk => ?_⟩
    refine ⟨.bl _, H, I.kept fun b o eo => hk b o (fun hmem => ?_) (Heap.get?_push_of_some _ eo), ?_, q⟩
    · rcases List.mem_cons.mp hmem with e1 | hmem
      · exact absurd (e1 ▸ Heap.lt_size eo) (Nat.lt_irrefl _)
      · cases hmem
    · show Value.bool _ = Value.bool (bs.any id)
      rw [← L2.any_range, List.size_toArray, ← rv.length, vt.length]
theorem cr_allQ (hc : X.calm = true) : CallR X (.builtin "all") (rQu X.K fun bs => bs.all id) := by
  intro pins s σ H vs us Q I r h
  obtain ⟨a, xs, bs, rfl, hs, vt, q⟩ := h
  rw [Vals.ref1 r]
  rcases hs with hs | hs
  · obtain ⟨its, rv, hl, _⟩ := I.list hs
    refine call_all_walk (iter_any hl.isList fun s2 e2 st hne => ?_)
    subst e2
    refine ⟨_, _, _, _, _, _, _, rfl, Walks.list (A := X.A.in1) (I.ok.hd hc) _ a hne its.toArray, st, truth_vt rv vt, fun h' tk hk => ?_⟩
    refine ⟨.bl _, H, I.kept fun b o eo => hk b o (fun hmem => ?_) (Heap.get?_push_of_some _ eo), ?_, q⟩
    · rcases List.mem_cons.mp hmem with e1 | hmem
      · exact absurd (e1 ▸ Heap.lt_size eo) (Nat.lt_irrefl _)
      · cases hmem
    · show Value.bool _ = Value.bool (bs.all id)
      rw [← L2.all_range, List.size_toArray, ← rv.length, vt.length]
  · obtain ⟨its, rv, hl, _⟩ := I.tuple hs
    refine call_all_walk (iter_tup hl fun s2 e2 st hne => ?_)
    subst e2
    refine ⟨_, _, _, _, _, _, _, rfl, Walks.tuple (A := X.A.in1) (I.ok.hd hc) _ a hne its.toArray, st, truth_vt rv vt, fun h' tk hk => ?_⟩
    refine ⟨.bl _, H, I.kept fun b o eo => hk b o (fun hmem => ?_) (Heap.get?_push_of_some _ eo), ?_, q⟩
    · rcases List.mem_cons.mp hmem with e1 | hmem
      · exact absurd (e1 ▸ Heap.lt_size eo) (Nat.lt_irrefl _)
      · cases hmem
    · show Value.bool _ = Value.bool (bs.all id)
      rw [← L2.all_range, List.size_toArray, ← rv.length, vt.length]
theorem foldl_min : ∀ (r : List Int) (a : Int), (r.foldl (fun x y => if y < x then y else x) a ∈ a :: r) ∧ ∀ y ∈ a :: r, r.foldl (fun x y => if y < x then y else x) a ≤ y
  | [], a => ⟨List.mem_singleton.mpr rfl, fun y hy => by rw [List.mem_singleton.mp hy]; exact Int.le_refl _⟩
  | b :: r, a => by
    obtain ⟨h1, h2⟩ := foldl_min r (if b < a then b else a)
    rw [List.foldl_cons]
    refine ⟨?_, fun y hy => ?_⟩
    · rcases List.mem_cons.mp h1 with e | h1
      · rw [e]
        split
        · exact List.mem_cons_of_mem _ (List.mem_cons_self ..)
        · exact List.mem_cons_self ..
      · exact List.mem_cons_of_mem _ (List.mem_cons_of_mem _ h1)
    · have h3 := h2 _ (List.mem_cons_self ..)
      have h4 : (if b < a then b else a) ≤ a ∧ (if b < a then b else a) ≤ b := by split <;> omega
      rcases List.mem_cons.mp hy with rfl | hy
      · exact Int.le_trans h3 h4.1
      · rcases List.mem_cons.mp hy with rfl | hy
        · exact Int.le_trans h3 h4.2
        · exact h2 y (List.mem_cons_of_mem _ hy)
theorem least_is {ns : List Int} {m x : Int} (h : leastI ns = some m) (h1 : x ∈ ns) (h2 : ∀ y, y ∈ ns → x ≤ y) : x = m := by
  cases ns with
  | nil => cases h
  | cons a r =>
    cases h
    obtain ⟨k1, k2⟩ := foldl_min r a
    have := h2 _ k1
    have := k2 _ h1
    omega
theorem least_ne {ns : List Int} {m : Int} (h : leastI ns = some m) : 0 < ns.length := by
  cases ns with
  | nil => cases h
  | cons a r => rw [List.length_cons]; omega
/-- sum(t) of a tuple of whole numbers -/
theorem cr_sumT (hc : X.calm = true) : CallR X (.builtin "sum") (fun vs H Q => ∃ (a : Addr) (ns : List Int), vs = [V.ref a] ∧ SqT X.K H a (ns.map V.int) ∧ Q (.int ns.sum) H) := by
  intro pins s σ H vs us Q I r h
  obtain ⟨a, ns, rfl, hs, q⟩ := h
  rw [Vals.ref1 r]
  obtain ⟨its, rv, hl, _⟩ := I.tuple hs
  have hi := rv.ints
  obtain ⟨xs, hx⟩ := hi.allInts.items
  have hl' : s.heap.IsTuple a its.toArray := hl
  have hn : numsOf its.toArray.toList = ns := by rw [show its.toArray.toList = its from rfl, hi.numsOf]
  rw [hx] at hl' hn
  rw [nums_intItems] at hn
  refine PySem.W.ktm_sumG (I.ok.hd hc) hl' fun h' tk t' hk => ⟨.int _, H, I.kept hk, ⟨_, rfl⟩, ?_⟩
  rw [preSum_eq, List.take_of_length_le (by simp), hn]
  exact q
/-- min(t) of a tuple of whole numbers -/
theorem cr_minT (hc : X.calm = true) : CallR X (.builtin "min") (fun vs H Q => ∃ (a : Addr) (ns : List Int), vs = [V.ref a] ∧ SqT X.K H a (ns.map V.int) ∧ 0 < ns.length ∧ ∀ m, m ∈ ns → (∀ y, y ∈ ns → m ≤ y) → Q (.int m) H) := by
  intro pins s σ H vs us Q I r h
  obtain ⟨a, ns, rfl, hs, hne, q⟩ := h
  rw [Vals.ref1 r]
  obtain ⟨its, rv, hl, _⟩ := I.tuple hs
  have hi := rv.ints
  have hval : ∀ (i : Nat) (v : Value), its.toArray[i]? = some v → ∃ t, v = Value.int (ns.getD i 0) t := fun i v e => by
    have e' : its[i]? = some v := by simpa using e
    have key : ∀ {us : List Value} {ns : List Int} {i : Nat}, IntsAre us ns → us[i]? = some v → ∃ t, v = Value.int (ns.getD i 0) t := fun {us ns i} h => by
      induction h generalizing i with
      | nil => intro e; simp at e
      | cons x t r ih =>
        intro e
        cases i with
        | zero => simp at e; subst e; exact ⟨_, rfl⟩
        | succ i => simpa using ih (by simpa using e)
    exact key hi e'
  have hlen : its.length = ns.length := by rw [hi.length]
  refine call_min_walk (iter_tup hl fun s2 e2 st hne2 => ?_)
  subst e2
  have hlt : a < s.heap.objs.size := by obtain ⟨_, e, _⟩ := hl; exact Heap.lt_size e
  refine ⟨_, [_, a], [_], _, _, _, _, rfl, Walks.tuple (A := X.A.in1) (I.ok.hd hc) _ a hne2 its.toArray, st, fun b hb => ?_, by rw [List.size_toArray, hlen]; exact hne, CmpOf.ints_lt (fun i => ns.getD i 0) hval, fun v h' tk hP hk => ?_⟩
  · show b < (s.heap.push _).objs.size
    rw [Heap.size_push]
    rcases List.mem_cons.mp hb with e | hb
    · rw [e]
      exact Nat.lt_succ_self _
    · rw [List.mem_singleton.mp hb]
      exact Nat.lt_succ_of_lt hlt
  · obtain ⟨t, rfl⟩ := hval _ v hP
    obtain ⟨b1, b2⟩ := argBest_lt (fun i => ns.getD i 0) (its.toArray.size - 1)
    rw [List.size_toArray, hlen] at b1 b2 hP ⊢
    refine ⟨.int _, H, I.kept (t' := tk) fun b u e => hk b u (fun hmem => ?_) (Heap.get?_push_of_some _ e), ⟨t, rfl⟩, q _ ?_ fun j hj => ?_⟩
    · have e1 : b = s.heap.objs.size := List.mem_singleton.mp hmem
      have e2 := Heap.lt_size e
      rw [e1] at e2
      exact absurd e2 (Nat.lt_irrefl _)
    · have hb : argBest (fun i j => decide (ns.getD i 0 < ns.getD j 0)) (ns.length - 1) < ns.length := by omega
      rw [List.getD_eq_getElem?_getD, List.getElem?_eq_getElem hb]
      exact List.getElem_mem hb
    · obtain ⟨i, hi, e⟩ := List.mem_iff_getElem.mp hj
      have e2 : ns.getD i 0 = j := by rw [List.getD_eq_getElem?_getD, List.getElem?_eq_getElem hi, ← e] <;> rfl
      rw [← e2]
      exact b2 i (by omega)
def biFn : Bi → Value
  | .len => .builtin "len"
  | .abs => .builtin "abs"
  | .int => .type "int"
  | .repr => .builtin "repr"
  | .list => .type "list"
  | .tuple => .type "tuple"
  | .sum => .builtin "sum"
  | .all => .builtin "all"
  | .any => .builtin "any"
  | .sorted => .builtin "sorted"
  | .min2 => .builtin "min"
  | .max2 => .builtin "max"
  | .minL => .builtin "min"
theorem cr_bi (hu : X.A.units + 64 < cLine) (hg : X.A.guards = some []) (hc : X.calm = true) (b : Bi) : CallR X (biFn b) (rVn (biV b)) := by
  intro pins s σ H xs us Q I r h
  obtain ⟨W0, H0, W, st, ds, d, n, vw, e, f⟩ := h
  have hsz := sizeLine_eq
  cases b with
  | len =>
    replace e : lenB ds = some d := e
    unfold lenB at e
    split at e
    · cases e
      obtain ⟨x, rfl, a, vs, rfl, q, t⟩ := vw1 vw
      exact call_len_seq pins s σ H _ us Q I r ⟨a, vs, rfl, .inl (.inl q), f.here n (by rw [t.length]; exact .int _)⟩
    · cases e
      obtain ⟨x, rfl, v⟩ := vw1 vw
      obtain ⟨a, vs, rfl, q, t⟩ := v.tup
      exact call_len_seq pins s σ H _ us Q I r ⟨a, vs, rfl, .inr (.inl q), f.here n (by rw [t.length]; exact .int _)⟩
    · obtain ⟨hl, e⟩ := ifS e
      cases e
      obtain ⟨x, rfl, v⟩ := vw1 vw
      cases v.str
      exact call_len_str pins s σ H _ us Q I r ⟨_, rfl, by rw [hsz]; exact hl, f.here n (.int _)⟩
    · cases e
  | abs =>
    replace e : absB ds = some d := e
    unfold absB at e
    split at e
    · cases e
      obtain ⟨x, rfl, v⟩ := vw1 vw
      cases v.int
      exact call_abs pins s σ H _ us Q I r ⟨_, rfl, f.here n (.int _)⟩
    · cases e
  | int =>
    replace e : intB ds = some d := e
    unfold intB at e
    split at e
    · cases e
      obtain ⟨x, rfl, v⟩ := vw1 vw
      cases v.int
      exact call_int1 pins s σ H _ us Q I r (.inl ⟨_, rfl, f.here n (.int _)⟩)
    · cases e
      obtain ⟨x, rfl, v⟩ := vw1 vw
      cases v.bool
      exact call_int1 pins s σ H _ us Q I r (.inr ⟨_, rfl, f.here n (.int _)⟩)
    · cases e
  | repr =>
    replace e : reprB ds = some d := e
    unfold reprB at e
    split at e
    · rename_i kvs
      obtain ⟨hk, e⟩ := ifS e
      cases e
      obtain ⟨x, rfl, v⟩ := vw1 vw
      obtain ⟨u, rfl, ru⟩ := vals1 r
      simp only [Bool.and_eq_true, decide_eq_true_eq] at hk
      obtain ⟨⟨⟨h0, h1⟩, h2⟩, h3⟩ := hk
      have ne : kvs ≠ [] := fun z => by rw [z] at h0; exact nomatch h0
      obtain ⟨a, rfl, hm, rd⟩ := dict_reads I (show Dv W.im H x (.dict kvs) from v) ru ne h1
      have dp : (PyData.dict kvs).depth = 1 := by simp only [PyData.depth, depth_sc h1]
      exact repr_of_reads' rd h2 (fun _ hm2 => by rw [List.mem_singleton] at hm2; subst hm2; simp at hm) hg (by rw [dp]; omega) (fun _ _ q => q) (fun h' t tk k => ⟨.str _, H, I.kept k, ⟨_, rfl⟩, f.here n (.str _)⟩) (by rw [hsz]; exact h3)
    · rename_i d' hnd
      obtain ⟨hk, e⟩ := ifS e
      cases e
      obtain ⟨x, rfl, v⟩ := vw1 vw
      obtain ⟨u, rfl, ru⟩ := vals1 r
      simp only [Bool.and_eq_true, decide_eq_true_eq] at hk
      obtain ⟨⟨h1, h2⟩, h3⟩ := hk
      have p := shal_plain _ _ h1
      have dp := shal_depth _ _ h1
      obtain ⟨as, rd⟩ := v.reads I ru p
      have hlen : d'.shown.length ≤ sizeLine := Nat.le_trans (wid_shown d' h2 p) (by rw [hsz]; exact h3)
      have fin : ∀ (h' : Heap) (t : Tok) (tk : Nat), (∀ b o, s.heap.get? b = some o → h'.get? b = some o) → EP X pins σ Q (.str d'.shown t) { s with heap := h', toks := tk } := fun h' t tk k =>
        ⟨.str d'.shown, H, I.kept k, ⟨_, rfl⟩, f.here n (.str _)⟩
      have same : ∀ (h' : Heap), h' = s.heap → (∀ b o, s.heap.get? b = some o → h'.get? b = some o) := fun h' e b o q => by rw [e]; exact q
      cases rd with
      | none => exact PySem.P.repr_of_none (fin s.heap _ _ fun _ _ q => q)
      | bool b => exact PySem.P.repr_of_bool (by cases b <;> exact fin s.heap _ _ fun _ _ q => q)
      | int i t =>
        have hi : i.natAbs.log2 < 1920 := by simpa only [PyData.showable, decide_eq_true_eq] using h2
        exact PySem.P.repr_of_int hi (fin s.heap _ _ fun _ _ q => q)
      | str y t => exact PySem.P.repr_of_str (fin s.heap _ _ fun _ _ q => q) hlen
      | list k1 k2 k3 k4 => exact repr_of_reads' (.list k1 k2 k3 k4) h2 (PyData.noDict_hsm (plain_hasDict _ p)) hg (by omega) (fun _ _ q => q) (fun h' t tk k => fin h' t tk k) hlen
      | tuple k1 k2 k3 k4 => exact repr_of_reads' (.tuple k1 k2 k3 k4) h2 (PyData.noDict_hsm (plain_hasDict _ p)) hg (by omega) (fun _ _ q => q) (fun h' t tk k => fin h' t tk k) hlen
      | dict k1 k2 k3 k4 k5 => simp only [PyData.plain] at p; cases p
    · cases e
  | list =>
    replace e : listB ds = some d := e
    unfold listB at e
    split at e
    · cases e
      obtain ⟨x, rfl, a, vs, rfl, q, t⟩ := vw1 vw
      exact call_list_of pins s σ H _ us Q I r ⟨a, vs, rfl, .inl (.inl q), fun p hp => f.lst n t hp⟩
    · cases e
      obtain ⟨x, rfl, v⟩ := vw1 vw
      obtain ⟨a, vs, rfl, q, t⟩ := v.tup
      exact call_list_of pins s σ H _ us Q I r ⟨a, vs, rfl, .inr (.inl q), fun p hp => f.lst n t hp⟩
    · cases e
  | tuple =>
    replace e : tupleB ds = some d := e
    unfold tupleB at e
    split at e
    · cases e
      obtain ⟨x, rfl, a, vs, rfl, q, t⟩ := vw1 vw
      exact cr_tupS pins s σ H _ us Q I r ⟨a, vs, rfl, .inl q, f.tup n t⟩
    · cases e
      obtain ⟨x, rfl, v⟩ := vw1 vw
      obtain ⟨a, vs, rfl, q, t⟩ := v.tup
      exact call_tuple_of pins s σ H _ us Q I r ⟨a, vs, rfl, .inr ⟨.inl q, f.here n (show Dv W.im H _ _ from v)⟩⟩
    · cases e
  | sum =>
    replace e : sumB ds = some d := e
    unfold sumB at e
    split at e
    · obtain ⟨ns, e', rfl⟩ := mapS e
      obtain ⟨x, rfl, a, vs, rfl, q, t⟩ := vw1 vw
      obtain ⟨rfl, _⟩ := t.ints e'
      exact cr_sum hc pins s σ H _ us Q I r ⟨a, ns, rfl, .inl q, f.here n (.int _)⟩
    · obtain ⟨ns, e', rfl⟩ := mapS e
      obtain ⟨x, rfl, v⟩ := vw1 vw
      obtain ⟨a, vs, rfl, q, t⟩ := v.tup
      obtain ⟨rfl, _⟩ := t.ints e'
      exact cr_sumT hc pins s σ H _ us Q I r ⟨a, ns, rfl, .inl q, f.here n (.int _)⟩
    · cases e
  | all =>
    replace e : allB ds = some d := e
    unfold allB at e
    split at e
    · obtain ⟨ns, e', rfl⟩ := mapS e
      obtain ⟨x, rfl, a, vs, rfl, q, t⟩ := vw1 vw
      exact cr_allQ hc pins s σ H _ us Q I r ⟨a, vs, ns, rfl, .inl (.inl q), vt_of t e', f.here n (.bl _)⟩
    · obtain ⟨ns, e', rfl⟩ := mapS e
      obtain ⟨x, rfl, v⟩ := vw1 vw
      obtain ⟨a, vs, rfl, q, t⟩ := v.tup
      exact cr_allQ hc pins s σ H _ us Q I r ⟨a, vs, ns, rfl, .inr (.inl q), vt_of t e', f.here n (.bl _)⟩
    · cases e
  | any =>
    replace e : anyB ds = some d := e
    unfold anyB at e
    split at e
    · obtain ⟨ns, e', rfl⟩ := mapS e
      obtain ⟨x, rfl, a, vs, rfl, q, t⟩ := vw1 vw
      exact cr_anyQ hc pins s σ H _ us Q I r ⟨a, vs, ns, rfl, .inl (.inl q), vt_of t e', f.here n (.bl _)⟩
    · obtain ⟨ns, e', rfl⟩ := mapS e
      obtain ⟨x, rfl, v⟩ := vw1 vw
      obtain ⟨a, vs, rfl, q, t⟩ := v.tup
      exact cr_anyQ hc pins s σ H _ us Q I r ⟨a, vs, ns, rfl, .inr (.inl q), vt_of t e', f.here n (.bl _)⟩
    · cases e
  | sorted =>
    replace e : sortedB ds = some d := e
    unfold sortedB at e
    split at e
    · split at e
      · rename_i ns e'
        cases e
        obtain ⟨x, rfl, a, vs, rfl, q, t⟩ := vw1 vw
        obtain ⟨rfl, _⟩ := t.ints e'
        exact cr_sortedI pins s σ H _ us Q I r ⟨a, ns, rfl, .inl q, fun ns' p k1 k2 hp => by
          rw [isort_of k1 k2]
          exact f.lst n (DvAll.of_ints _) hp⟩
      · split at e
        · rename_i nss e'
          cases e
          obtain ⟨x, rfl, a, vs, rfl, q, t⟩ := vw1 vw
          obtain ⟨as, rfl, k1, k2⟩ := tups_at t e'
          refine cr_sortTI pins s σ H _ us Q I r ⟨a, as, kH H, rfl, .inl q, fun b hb => ⟨(k2 b hb).2.1.sq, (k2 b hb).2.2⟩, fun bs p h1 h2 hp => ?_⟩
          rw [k1] at h2
          rw [← h2] at f
          exact f.lst n (dv_tups fun b hb => ⟨(k2 b (h1.mem_iff.mp hb)).1, (k2 b (h1.mem_iff.mp hb)).2.1⟩) hp
        · split at e
          · rename_i nss e'
            cases e
            obtain ⟨x, rfl, a, vs, rfl, q, t⟩ := vw1 vw
            obtain ⟨as, rfl, k1, k2⟩ := lsts_at t e'
            refine cr_sortLI (by omega) pins s σ H _ us Q I r ⟨a, as, kL H, rfl, .inl q, fun b hb => .inl (k2 b hb).2, fun bs p h1 h2 hp => ?_⟩
            rw [k1] at h2
            rw [← h2] at f
            exact f.lst n (dv_lsts fun b hb => ⟨(k2 b (h1.mem_iff.mp hb)).1, (k2 b (h1.mem_iff.mp hb)).2⟩) hp
          · obtain ⟨ts, e', rfl⟩ := mapS e
            obtain ⟨x, rfl, a, vs, rfl, q, t⟩ := vw1 vw
            obtain ⟨as, rfl, k1, k2⟩ := tbls_at t e'
            refine cr_sortTT (by omega) pins s σ H _ us Q I r ⟨a, as, kT H, rfl, .inl q, fun b hb => ⟨Dv.dp X.K (k2 b hb).1 (by simp [tblD, PyData.plain, plain_rows]), (k2 b hb).2⟩, fun bs p h1 h2 hp => ?_⟩
            rw [k1] at h2
            rw [← h2] at f
            exact f.lst n (dv_tbls fun b hb => (k2 b (h1.mem_iff.mp hb)).1) hp
    · obtain ⟨ns, e', rfl⟩ := mapS e
      obtain ⟨x, rfl, v⟩ := vw1 vw
      obtain ⟨a, vs, rfl, q, t⟩ := v.tup
      obtain ⟨rfl, _⟩ := t.ints e'
      exact cr_sortedT pins s σ H _ us Q I r ⟨a, ns, rfl, q, fun ns' p k1 k2 hp => by
        rw [isort_of k1 k2]
        exact f.lst n (DvAll.of_ints _) hp⟩
    · cases e
  | min2 =>
    replace e : min2B ds = some d := e
    unfold min2B at e
    split at e
    · cases e
      obtain ⟨x, y, rfl, v1, v2⟩ := vw2 vw
      cases v1.int; cases v2.int
      exact call_min2 hc pins s σ H _ us Q I r ⟨_, _, rfl, f.here n (.int _)⟩
    · cases e
  | max2 =>
    replace e : max2B ds = some d := e
    unfold max2B at e
    split at e
    · cases e
      obtain ⟨x, y, rfl, v1, v2⟩ := vw2 vw
      cases v1.int; cases v2.int
      exact call_max2 hc pins s σ H _ us Q I r ⟨_, _, rfl, f.here n (.int _)⟩
    · cases e
  | minL =>
    replace e : minLB ds = some d := e
    unfold minLB at e
    split at e
    · obtain ⟨ns, e', e2⟩ := Option.bind_eq_some_iff.mp e
      obtain ⟨m, e3, rfl⟩ := mapS e2
      obtain ⟨x, rfl, a, vs, rfl, q, t⟩ := vw1 vw
      obtain ⟨rfl, _⟩ := t.ints e'
      exact cr_min hc pins s σ H _ us Q I r ⟨a, ns, rfl, .inl q, least_ne e3, fun x h1 h2 => by rw [least_is e3 h1 h2]; exact f.here n (.int _)⟩
    · obtain ⟨ns, e', e2⟩ := Option.bind_eq_some_iff.mp e
      obtain ⟨m, e3, rfl⟩ := mapS e2
      obtain ⟨x, rfl, v⟩ := vw1 vw
      obtain ⟨a, vs, rfl, q, t⟩ := v.tup
      obtain ⟨rfl, _⟩ := t.ints e'
      exact cr_minT hc pins s σ H _ us Q I r ⟨a, ns, rfl, .inl q, least_ne e3, fun x h1 h2 => by rw [least_is e3 h1 h2]; exact f.here n (.int _)⟩
    · cases e
end
end MP
end MVal

section MTup
set_option Elab.async false
set_option linter.all false
set_option maxRecDepth 100000
set_option autoImplicit false
set_option maxHeartbeats 4000000
/-! MTup: t[::-1] of a tuple; xs.extend(t); is of truths. -/
namespace MP
open PySem PySem.Spec PyProof.Rows L2
section
variable {prog : Program} {w : World} {A : Around} {E : Value → Shared → Prop} {s : Shared}
theorem back_places (n : Nat) : Builtin.Slice.slicePlaces ((n : Int) - 1) (-1) (-1) = n := by
  unfold Builtin.Slice.slicePlaces
  have h1 : ¬ ((-1 : Int) > 0) := by omega
  simp only [h1, if_false]
  by_cases h : n = 0
  · subst h; decide
  · have e : ((n : Int) - 1 - -1 - 1) / - -1 + 1 = n := by
      rw [show (- -1 : Int) = 1 by decide, Int.ediv_one]; omega
    split <;> omega
theorem back_pick (xs : Array Value) : ((List.range xs.size).filterMap fun (m : Nat) => xs[(((xs.size : Int) - 1) + (m : Int) * -1).toNat]?).toArray = xs.toList.reverse.toArray := by
  congr 1
  have e : ∀ m ∈ List.range xs.size, xs[(((xs.size : Int) - 1) + (m : Int) * -1).toNat]? = some (xs.toList.reverse.getD m .none) := fun m hm => by
    have hm := List.mem_range.mp hm
    have h1 : (((xs.size : Int) - 1) + (m : Int) * -1).toNat = xs.size - 1 - m := by omega
    have h2 : m < xs.toList.reverse.length := by simp; exact hm
    rw [h1, List.getD_eq_getElem?_getD, List.getElem?_eq_getElem h2, Array.getElem?_eq_getElem (by omega)]
    simp
  have e2 : (List.range xs.size).filterMap (fun (m : Nat) => xs[(((xs.size : Int) - 1) + (m : Int) * -1).toNat]?) = (List.range xs.size).map fun m => xs.toList.reverse.getD m .none := by
    have key : ∀ l : List Nat, (∀ m ∈ l, m ∈ List.range xs.size) → l.filterMap (fun (m : Nat) => xs[(((xs.size : Int) - 1) + (m : Int) * -1).toNat]?) = l.map fun m => xs.toList.reverse.getD m .none := fun l => by
      induction l with
      | nil => exact fun _ => rfl
      | cons m l ih =>
        intro hl
        rw [List.filterMap_cons, e m (hl m List.mem_cons_self), List.map_cons, ih fun x hx => hl x (List.mem_cons_of_mem _ hx)]
    exact key _ fun _ h => h
  rw [e2]
  refine List.ext_getElem (by simp) fun i h1 h2 => ?_
  simp
  rw [List.getElem?_eq_getElem (by simpa using h1)]
  simp
theorem tuple_back {t sl : Addr} {items : Array Value} {vl vu vs : Value} {Q : Value → Shared → Prop} (ht : IsTup s.heap t items) (hs : s.heap.IsSliceOf sl vl vu vs) (pl : IsPart vl none) (pu : IsPart vu none) (ps : IsPart vs (some (-1)))
    (h : Q (.ref s.heap.objs.size) { s with heap := s.heap.push { cls := .type "tuple", data := .seq items.toList.reverse.toArray } }) (hsz : items.size ≤ sizeLine) : wpAny (model prog w) A (getItem (.ref t) (.ref sl)) Q E s := by
  have hfit : sizeOk (.seq items.toList.reverse.toArray) := by
    show items.toList.reverse.toArray.size ≤ sizeLine
    rw [List.size_toArray, List.length_reverse, Array.length_toList]; exact hsz
  obtain ⟨ob, hob, hcl, hda⟩ := id hs
  have isS : s.TypeIs (.ref sl) "slice" := ⟨ob, hob, hcl⟩
  unfold getItem
  try with_reducible refine wpAny_holding ?_
  first | refine wpAny_bind (wpAny_pure ?_) | skip
  refine wpAny_bind (wpAny_sequenceKey ht.typeIs (by decide) (wpAny_bind (wpAny_callSpecial?_slot (name := Str.ofString "__getitem__") ht.typeIs PyProof.Rows.slot_tuple_getitem (wpAny_call_entry PyProof.Rows.slot_tuple_getitem ht.typeIs entry_tuple_getitem ?_ (args_tuple_getitem _ _)))))
  show wpAny _ _ (Builtin.Tuple.tupleItemsOf (.ref t) >>= _) _ _ s
  refine wpAny_bind (tupleItemsOf_ ht (wpAny_bind (wpAny_typeOf isS ?_)))
  rw [if_pos (by decide)]
  have applied : ∀ {Q : Int × Int × Nat → Shared → Prop} {E : Value → Shared → Prop} {A : Around}, Q ((items.size : Int) - 1, -1, items.size) s → wpAny (model prog w) A (Builtin.Slice.sliceApplied (.ref sl) (pure (items.size : Int))) Q E s := fun {Q E A} hq => by
    unfold Builtin.Slice.sliceApplied Builtin.Slice.sliceFields
    refine wpAny_bind (wpAny_bind (wpAny_field hob hda (x := vl) rfl (wpAny_bind (wpAny_field hob hda (x := vu) rfl (wpAny_bind (wpAny_field hob hda (x := vs) rfl (wpAny_pure ?_)))))))
    refine wpAny_bind (HT.slicePart_ ps ?_)
    show wpAny _ _ (if ((-1 : Int) == 0) = true then _ else _) _ _ s
    rw [if_neg (by decide)]
    refine wpAny_bind (HT.slicePart_ pl (wpAny_bind (HT.slicePart_ pu (wpAny_bind (wpAny_pure ?_)))))
    show wpAny _ _ (match Builtin.Slice.sliceAdjust none none (-1) (items.size : Int) with | (lo, hi) => pure (lo, (-1 : Int), Builtin.Slice.slicePlaces lo hi (-1))) _ _ s
    have e : Builtin.Slice.sliceAdjust none none (-1) (items.size : Int) = ((items.size : Int) - 1, -1) := by
      unfold Builtin.Slice.sliceAdjust
      simp
    rw [e]
    show wpAny _ _ (pure ((items.size : Int) - 1, (-1 : Int), Builtin.Slice.slicePlaces ((items.size : Int) - 1) (-1) (-1))) _ _ s
    rw [back_places]
    exact wpAny_pure hq
  refine wpAny_bind (applied ?_)
  show wpAny _ _ (if (((items.size : Int) - 1) == 0 && (-1 : Int) == 1 && items.size == items.size) = true then _ else _) _ _ s
  rw [if_neg (by simp), back_pick]
  exact wpAny_bind (m := Builtin.Tuple.tupleExact _) (wpAny_newObj_type (wpAny_pure ⟨_, rfl, wpAny_pure h⟩) hfit)
/-- xs.extend(t), t a tuple -/
theorem ext_tuple (l : Addr) (its : Array Value) (n : Nat) (b : Addr) (its2 : Array Value) (n2 : Nat) (dd : Option Addr) (sl : Array (Option Value)) (c0 : ¬(!its.isEmpty && Builtin.List.listTooLong (its.size + its2.size)) = true) (c1 : its.size ≤ sizeLine) (c2 : its.size + its2.size ≤ sizeLine + 1) :
    Meets (Builtin.«list.extend» ⟨[.ref l, .ref b], []⟩) (fun _ R s => s.heap.get? l = some { cls := .type "list", data := .seq its n } ∧ s.heap.get? b = some { cls := .type "tuple", dict := dd, data := .seq its2 n2, slots := sl } ∧ R (.ok (.ret Value.none)) { s with heap := s.heap.update l (Obj.mapSeq fun x => x ++ its2), toks := s.toks }) :=
  .of_wp fun prog w A R s h => by
    obtain ⟨hp, g, d, tk, os⟩ := s
    obtain ⟨hl, hb, h⟩ := h
    have f1 := AutoSeq1.idx_int; have f2 := AutoSeq1.sub_tuple_tuple; have f3 := AutoSeq1.sub_list_list; have f4 := AutoSeq1.sub_tuple_list; have f5 := AutoSeq1.sub_list_tuple
    have hz' : (its ++ its2).size ≤ sizeLine + 1 := by rw [Array.size_append]; exact c2
    wp_walk using (wpAny_updateSeq hl rfl (hz := c1) (_hz' := hz')), AutoSeq1.wpAny_loadPart' hl, AutoSeq1.wpAny_loadPart' hb
    exact ⟨_, rfl, h⟩
end
section
variable {X : Cx}
def tRevA (K : PySem.W.Frag) (te : TE) : TE := fun σ H Q => te σ H fun x H1 => ∃ a xs, x = .ref a ∧ ((SqL K H1 a xs ∧ ∀ p, H1 p = none → Q (.ref p) (upd H1 p (.lst xs.reverse))) ∨ (StT H1 a xs ∧ NewT H1 xs.reverse Q))
theorem pe_revA {e : Expr} {te : TE} {k : Nat} {p1 p2 p3 pos : Pos} (he : PE X e te) : PE X (.Subscript e (.Slice none none (some (.UnaryOp .USub (.Constant (.int 1) k p1) p2)) p3) pos) (tRevA X.K te) := by
  refine ⟨fun pins s σ H Q I h => ?_⟩
  refine Subscript_ (thn (he.run pins s σ H _ I h) fun v s1 ⟨x, H1, I1, r1, a, xs, ex, q1⟩ => ?_)
  subst ex
  cases r1
  have hst : PO X (some (.UnaryOp .USub (.Constant (.int 1) k p1) p2)) (tPart (tUn (rU fun i => .int (-i)) (tC (.int 1)))) := po_some (pe_un un_neg pe_int)
  refine wpAny_Slice (thn (po_none.run pins s1 σ H1 (fun o H2 => o = none ∧ H2 = H1) I1 ⟨rfl, rfl⟩) fun vl s2 ⟨l, H2, I2, pl, el, e2⟩ => ?_)
  subst el e2
  refine thn (po_none.run pins s2 σ H2 (fun o H3 => o = none ∧ H3 = H2) I2 ⟨rfl, rfl⟩) fun vu s3 ⟨u, H3, I3, pu, eu, e3⟩ => ?_
  subst eu e3
  refine thn (hst.run pins s3 σ H3 (fun o H4 => o = some (-1) ∧ H4 = H3) I3 ⟨1, rfl, -1, rfl, rfl, rfl⟩) fun vs s4 ⟨o, H4, I4, ps, eo, e4⟩ => ?_
  subst eo e4
  have I5 : Inv X pins σ H4 { s4 with heap := s4.heap.push { cls := .type "slice", data := .fields #[vl, vu, vs] } } := I4.kept (t' := s4.toks) fun b ob q => Heap.get?_push_of_some _ q
  show wpAny (model X.prog X.w) X.A (subscriptTail e (.Slice none none (some (.UnaryOp .USub (.Constant (.int 1) k p1) p2)) p3) (.ref a) (.ref s4.heap.objs.size)) (EP X pins σ Q) X.xe { s4 with heap := s4.heap.push { cls := .type "slice", data := .fields #[vl, vu, vs] } }
  rcases q1 with ⟨hx, q⟩ | ⟨hx, q⟩
  · obtain ⟨its, r, ht, hz⟩ := I5.list hx
    have hlen := r.length
    refine tail_any (ops := [.ref a, .ref s4.heap.objs.size]) ht.isList.typeIs (PySem.slot_list_getitem.lookup) (wpAny_getItem_list_slice ht.isList (Heap.IsSliceOf.new _ vl vu vs) pl pu ps (by decide) ?_ (by rw [List.size_toArray]; omega)) (by with_unfolding_all rfl)
    rw [PySem.W.krv_pick]
    exact ⟨.ref _, _, I5.laid (t' := s4.toks) (o := .lst xs.reverse) (fun b ob q => Heap.get?_push_of_some _ q) (Nat.le_refl _) ⟨by rw [List.length_reverse]; exact hz, _, 0, r.reverse, Heap.get?_push_size _ rfl⟩, rfl, q _ (I5.hok.fresh (Nat.le_refl _))⟩
  · obtain ⟨us, r, ht, hz, hl⟩ := tup_at I5 hx
    refine tail_any (ops := [.ref a, .ref s4.heap.objs.size]) ht.typeIs PyProof.Rows.slot_tuple_getitem.lookup (tuple_back ht (Heap.IsSliceOf.new _ vl vu vs) pl pu ps ?_ (by rw [List.size_toArray]; omega)) (by with_unfolding_all rfl)
    exact lay_tup' I5 r.reverse (by rw [List.length_reverse]; exact hz) q
def rExtA (K : PySem.W.Frag) : V → List V → Hp → VK → Prop := fun x vs H Q => ∃ l b xs zs, x = .ref l ∧ vs = [.ref b] ∧ H l = some (.lst xs) ∧ (H b = some (.lst zs) ∨ SqT K H b zs) ∧ xs.length + zs.length ≤ sizeLine ∧ Q .non (upd H l (.lst (xs ++ zs)))
theorem mt_extA : MtR X "list.extend" (rExtA X.K) := by
  intro pins s σ H x vs v us Q I rx rv h
  obtain ⟨l, b, xs, zs, rfl, rfl, hH, hB, hz, q⟩ := h
  rcases hB with hB | hB
  · exact mt_extend pins s σ H _ _ v us Q I rx rv ⟨l, b, xs, zs, rfl, rfl, hH, hB, hz, q⟩
  · cases rx
    obtain ⟨u, rfl, ru⟩ := rv.one
    cases ru
    obtain ⟨z, its, n, r, hl, e⟩ := I.lstM hH
    obtain ⟨its2, r2, ⟨⟨cls, dd, data, sl⟩, e2, hc, n2, hd⟩, hz2⟩ := I.tuple hB
    simp only at hc hd
    subst hc hd
    have hl2 := r2.length
    have hsz : its.toArray.size + its2.toArray.size ≤ sizeLine := by rw [List.size_toArray, List.size_toArray]; omega
    have hno : ¬ (!its.toArray.isEmpty && Builtin.List.listTooLong (its.toArray.size + its2.toArray.size)) = true := by
      rw [notLongL hsz, Bool.and_false]; exact Bool.false_ne_true
    refine call_meets F.slot_list_extend ⟨_, e, rfl⟩ F.entry_list_extend (F.args_list_extend_2 _ _) (ext_tuple l its.toArray n b its2.toArray n2 dd sl hno (by rw [List.size_toArray]; omega) (by omega)) ⟨e, e2, ?_⟩
    exact ⟨.non, _, I.lset (its' := its ++ its2) hH e (by simp) (r.append r2) (by rw [List.length_append]; omega), rfl, q⟩
end
end MP
end MTup

section MChk
set_option Elab.async false
set_option linter.all false
set_option maxRecDepth 100000
set_option autoImplicit false
set_option maxHeartbeats 1000000
/-! MChk: does a text of MPy stand for a given text of the syntax? -/
namespace MP
open PySem PySem.Spec PyProof.Rows L2

structure Tab where
  P : List Def
  G : List (Str × PyData)
  C : List Nat
  hot : Bool
/-- the classes of the program's own exceptions: name, fields -/
def clsTab : List (Str × List Str) := [("TableError", []), ("NoGroup", ["word", "thing"]), ("NoPerm", ["number"]), ("NoTable", ["word", "number"]), ("NoShares", ["word", "number"]), ("NoAlike", ["word"]), ("NoLines", ["row"]), ("NoName", ["name"]), ("TooMany", []), ("NoOrder", []), ("NoPart", []), ("NoText", []), ("NoRow", [])]
def clsNm (c : Nat) : Str := (clsTab.getD c ("", [])).1
def clsFs (c : Nat) : List Str := (clsTab.getD c ("", [])).2
def fldNms : List Str := ["word", "thing", "number", "row", "name"]
def noStar : Expr → Bool
  | .Starred _ _ => false
  | _ => true
def noSlice : Expr → Bool
  | .Slice _ _ _ _ => false
  | _ => true
def noSet : Expr → Bool
  | .Set _ _ _ => false
  | _ => true
def noCall0 : Expr → Bool
  | .Call (.Name _ _) [] [] _ => false
  | _ => true
def plainT : Expr → Bool
  | .UnaryOp .Not _ _ => false
  | .BoolOp _ _ _ => false
  | .IfExp _ _ _ _ => false
  | .Compare _ _ _ _ => false
  | _ => true
def noComp : Expr → Bool
  | .ListComp _ _ _ _ => false
  | .SetComp _ _ _ _ => false
  | .DictComp _ _ _ _ _ => false
  | _ => true
def noTup : Expr → Bool
  | .Tuple _ _ _ => false
  | _ => true
def okName (x : Str) : Bool := !(x == ("__debug__" : Str)) && !(x == ("__classdict__" : Str)) && !decide (x = ("__name__" : Str))
def visB (sc : Scope) (x : Str) : Bool := match sc.names.lookup x with
  | some .local => true
  | some .cell => true
  | some .free => true
  | _ => false
def gloB (sc : Scope) (x : Str) : Bool := match sc.names.lookup x with
  | some .globalImplicit => true
  | _ => false
def stoB (sc : Scope) (fq : Str → Bool) (x : Str) : Bool := match sc.names.lookup x with
  | some .local => true
  | some .cell => fq x
  | _ => false
def conB : PyData → Const → Bool
  | .none, .none => true
  | .bool a, .bool b => a == b
  | .int a, .int b => decide (a = b)
  | .str a, .str b => decide (a = b)
  | _, _ => false
def gsame : PyData → PyData → Bool
  | .int a, .int b => decide (a = b)
  | .str a, .str b => decide (a = b)
  | _, _ => false
/-- how a built-in is called -/
def biNm : Bi → Str
  | .len => "len"
  | .abs => "abs"
  | .int => "int"
  | .repr => "repr"
  | .list => "list"
  | .tuple => "tuple"
  | .sum => "sum"
  | .all => "all"
  | .any => "any"
  | .sorted => "sorted"
  | .min2 => "min"
  | .max2 => "max"
  | .minL => "min"
def tyNm : Ty → Str
  | .int => "int"
  | .bool => "bool"
  | .str => "str"
  | .tuple => "tuple"
  | .list => "list"
  | .dict => "dict"
def builtinNames : List Str := ["len", "abs", "int", "repr", "list", "tuple", "sum", "all", "any", "sorted", "min", "max", "range", "enumerate", "zip", "isinstance", "bool", "str", "dict", "set", "ValueError"]
def nameIs (sc : Scope) (x : Str) : Expr → Bool
  | .Name y _ => decide (y = x) && gloB sc x
  | _ => false
def clNames (T : Tab) (sc : Scope) : List Nat → List Expr → Bool
  | [], [] => true
  | c :: cs, e :: es => T.C.contains c && nameIs sc (clsNm c) e && okName (clsNm c) && clNames T sc cs es
  | _, _ => false
mutual
def tgNames : Tg → List Nat
  | .name i => [i]
  | .tup ts => tgsNames ts
  | .sub _ _ => []
  | .subD _ _ => []
def tgsNames : Tgs → List Nat
  | .nil => []
  | .cons t ts => tgNames t ++ tgsNames ts
end
/-- the scope that runs in a comprehension -/
def blkSc (scope sc : Scope) : Scope := relS scope sc
/-- what may stand as a test -/
def tOk : Ex → Bool
  | .ife _ _ _ => false
  | .cell _ => false
  | .and a b => tOk a && tOk b
  | .or a b => tOk a && tOk b
  | .not a => tOk a
  | _ => true
mutual
def chkE (T : Tab) (N : List Str) (sc : Scope) (fq : Str → Bool) : Ex → Expr → Bool
  | .var i, e => match e with
    | .Name x _ => decide (N[i]? = some x) && visB sc x && okName x
    | _ => false
  | .con d, e => match e with
    | .Constant c _ _ => conB d c
    | _ => false
  | .glob x d, e => match e with
    | .Name y _ => decide (y = x) && gloB sc x && okName x && T.G.any fun p => decide (p.1 = x) && gsame p.2 d
    | _ => false
  | .bin op a b, e => match e with
    | .BinOp a' op' b' _ => decide (op' = bopOp op) && chkE T N sc fq a a' && chkE T N sc fq b b'
    | _ => false
  | .neg a, e => match e with
    | .UnaryOp .USub a' _ => chkE T N sc fq a a'
    | _ => false
  | .cmp op a b, e => match e with
    | .Compare a' [op'] [b'] _ => decide (op' = copOp op) && noSet b' && chkE T N sc fq a a' && chkE T N sc fq b b'
    | _ => false
  | .chain o1 o2 a b c, e => match e with
    | .Compare a' [op1, op2] [b', c'] _ => decide (op1 = copOp o1) && decide (op2 = copOp o2) && noSet c' && chkE T N sc fq a a' && chkE T N sc fq b b' && chkE T N sc fq c c'
    | _ => false
  | .isin ng a b, e => match e with
    | .Compare a' [op'] [b'] _ => decide (op' = if ng then .NotIn else .In) && noSet b' && chkE T N sc fq a a' && chkE T N sc fq b b'
    | _ => false
  | .isinD ng a b, e => match e with
    | .Compare a' [op'] [b'] _ => decide (op' = if ng then .NotIn else .In) && noSet b' && chkE T N sc fq a a' && chkE T N sc fq b b'
    | _ => false
  | .and a b, e => match e with
    | .BoolOp .And [a', b'] _ => chkE T N sc fq a a' && chkE T N sc fq b b'
    | .BoolOp .And (a' :: b' :: c' :: r) p => chkE T N sc fq a a' && chkE T N sc fq b (.BoolOp .And (b' :: c' :: r) p)
    | _ => false
  | .or a b, e => match e with
    | .BoolOp .Or [a', b'] _ => chkE T N sc fq a a' && chkE T N sc fq b b'
    | .BoolOp .Or (a' :: b' :: c' :: r) p => chkE T N sc fq a a' && chkE T N sc fq b (.BoolOp .Or (b' :: c' :: r) p)
    | _ => false
  | .not a, e => match e with
    | .UnaryOp .Not a' _ => chkE T N sc fq a a'
    | _ => false
  | .ife c a b, e => match e with
    | .IfExp c' a' b' _ => tOk c && chkE T N sc fq c c' && chkE T N sc fq a a' && chkE T N sc fq b b'
    | _ => false
  | .tup es, e => match e with
    | .Tuple es' _ _ => chkEs T N sc fq es es'
    | _ => false
  | .lst es, e => match e with
    | .List es' _ => chkEs T N sc fq es es'
    | _ => false
  | .emp _, e => match e with
    | .Dict [] [] _ => true
    | _ => false
  | .idx a b, e => match e with
    | .Subscript a' b' _ => noSlice b' && chkE T N sc fq a a' && chkE T N sc fq b b'
    | _ => false
  | .idxD a b, e => match e with
    | .Subscript a' b' _ => noSlice b' && chkE T N sc fq a a' && chkE T N sc fq b b'
    | _ => false
  | .slc a lo hi, e => match e with
    | .Subscript a' (.Slice lo' hi' none _) _ => chkE T N sc fq a a' && chkO T N sc fq lo lo' && chkO T N sc fq hi hi'
    | _ => false
  | .bi f es, e => !T.hot && match e with
    | .Call f' (a' :: es') [] _ => nameIs sc (biNm f) f' && chkEs T N sc fq es (a' :: es')
    | _ => false
  | .lrng a, e => !T.hot && match e with
    | .Call f' [.Call g' [a'] [] _] [] _ => nameIs sc "list" f' && nameIs sc "range" g' && noStar a' && chkE T N sc fq a a'
    | _ => false
  | .isi a ts par, e => match par, ts, e with
    | false, [t], .Call f' [a', t'] [] _ => nameIs sc "isinstance" f' && noStar a' && chkE T N sc fq a a' && nameIs sc (tyNm t) t'
    | _, _, _ => false
  | .call f es, e => !T.hot && match e with
    | .Call (.Name x _) (a' :: es') [] _ => okName x && gloB sc x && decide ((T.P[f]?).map (·.name) = some x) && chkEs T N sc fq es (a' :: es')
    | _ => false
  | .comp elt tg it ifs own, e => !T.hot && match e with
    | .ListComp elt' [⟨tg', it', ifs', 0⟩] scope _ => blkC N sc scope own && noSet it' && chkIt T N sc fq it tg' it' && chkTg T N (blkSc scope sc) (fun x => scope.names.lookup x == some .cell) tg tg' &&
      chkIf T N (blkSc scope sc) (fun x => scope.names.lookup x == some .cell) ifs ifs' && chkE T N (blkSc scope sc) (fun x => scope.names.lookup x == some .cell) elt elt' && (tgNames tg).all fun i => decide (i ∈ own.map (·.2))
    | _ => false
  | .compT elt tg it ifs own, e => !T.hot && match e with
    | .ListComp elt' [⟨tg', it', ifs', 0⟩] scope _ => blkC N sc scope own && noSet it' && chkIt T N sc fq it tg' it' && chkTg T N (blkSc scope sc) (fun x => scope.names.lookup x == some .cell) tg tg' &&
      chkIf T N (blkSc scope sc) (fun x => scope.names.lookup x == some .cell) ifs ifs' && chkE T N (blkSc scope sc) (fun x => scope.names.lookup x == some .cell) elt elt' && (tgNames tg).all fun i => decide (i ∈ own.map (·.2))
    | _ => false
  | .compO elt tg e0 ifs own, e => !T.hot && match e with
    | .ListComp elt' [⟨tg', it', ifs', 0⟩] scope _ => blkC N sc scope own && noSet it' && chkE T N sc fq e0 it' && chkTg T N (blkSc scope sc) (fun x => scope.names.lookup x == some .cell) tg tg' &&
      chkIf T N (blkSc scope sc) (fun x => scope.names.lookup x == some .cell) ifs ifs' && chkE T N (blkSc scope sc) (fun x => scope.names.lookup x == some .cell) elt elt' && (tgNames tg).all fun i => decide (i ∈ own.map (·.2))
    | _ => false
  | .idxT a b, e => match e with
    | .Subscript a' b' _ => noSlice b' && chkE T N sc fq a a' && chkE T N sc fq b b'
    | _ => false
  | .cell e, e' => chkE T N sc fq e e'
  | .app a x, e => match e with
    | .Call (.Attribute a' m ap) [x'] [] cp => decide (m = "append") && noCall0 a' && decide (ap.endLine = cp.line) && noStar x' && chkE T N sc fq a a' && chkE T N sc fq x x'
    | _ => false
  | .pop a, e => match e with
    | .Call (.Attribute a' m ap) [] [] cp => decide (m = "pop") && noCall0 a' && decide (ap.endLine = cp.line) && chkE T N sc fq a a'
    | _ => false
  | .popAt a x, e => match e with
    | .Call (.Attribute a' m ap) [x'] [] cp => decide (m = "pop") && noCall0 a' && decide (ap.endLine = cp.line) && noStar x' && chkE T N sc fq a a' && chkE T N sc fq x x'
    | _ => false
  | .index a x, e => match e with
    | .Call (.Attribute a' m ap) [x'] [] cp => decide (m = "index") && noCall0 a' && decide (ap.endLine = cp.line) && noStar x' && chkE T N sc fq a a' && chkE T N sc fq x x'
    | _ => false
  | .count a x, e => match e with
    | .Call (.Attribute a' m ap) [x'] [] cp => decide (m = "count") && noCall0 a' && decide (ap.endLine = cp.line) && noStar x' && chkE T N sc fq a a' && chkE T N sc fq x x'
    | _ => false
  | .insert a i x, e => match e with
    | .Call (.Attribute a' m ap) [i', x'] [] cp => decide (m = "insert") && noCall0 a' && decide (ap.endLine = cp.line) && noStar i' && noStar x' && chkE T N sc fq a a' && chkE T N sc fq i i' && chkE T N sc fq x x'
    | _ => false
  | .dctT _ _, _ => false
  | .dksT _ _, _ => false
  | .exF a f, e => match e with
    | .Attribute a' m _ => decide (m = f) && fldNms.contains f && noCall0 a' && chkE T N sc fq a a'
    | _ => false
  | .exI a cs, e => match cs, e with
    | [c], .Call f' [a', t'] [] _ => nameIs sc "isinstance" f' && noStar a' && chkE T N sc fq a a' && noStar t' && clNames T sc [c] [t']
    | c :: c2 :: cs, .Call f' [a', .Tuple ts _ _] [] _ => nameIs sc "isinstance" f' && noStar a' && chkE T N sc fq a a' && ts.all noStar && clNames T sc (c :: c2 :: cs) ts && decide ((c :: c2 :: cs).length ≤ 50)
    | _, _ => false
  | .exV a, e => match e with
    | .Call f' [a', t'] [] _ => nameIs sc "isinstance" f' && noStar a' && chkE T N sc fq a a' && nameIs sc "ValueError" t'
    | _ => false
  | .exN ng a, e => match e with
    | .Compare a' [op'] [.Constant .none _ _] _ => decide (op' = if ng then .IsNot else .Is) && chkE T N sc fq a a'
    | _ => false
  | .bad, _ => true
  | .rgv tp lo hi, e => !T.hot && match e with
    | .Call f' [.Call g' [a'] [] _] [] _ => nameIs sc (if tp then "tuple" else "list") f' && nameIs sc "range" g' && noStar a' && chkO T N sc fq lo none && chkE T N sc fq hi a'
    | .Call f' [.Call g' [b', a'] [] _] [] _ => nameIs sc (if tp then "tuple" else "list") f' && nameIs sc "range" g' && noStar b' && noStar a' && chkO T N sc fq lo (some b') && chkE T N sc fq hi a'
    | _ => false
  | .dct es, e => match e with
    | .Dict ks vs _ => decide (1 ≤ ks.length ∧ ks.length ≤ 15) && chkKv T N sc fq es ks vs
    | _ => false
  | .dget a k d, e => match e with
    | .Call (.Attribute a' m ap) [k', d'] [] cp => decide (m = "get") && noCall0 a' && decide (ap.endLine = cp.line) && noStar k' && noStar d' && chkE T N sc fq a a' && chkE T N sc fq k k' && chkE T N sc fq d d'
    | _ => false
  | .dks so a, e => !T.hot && match e with
    | .Call f' [a'] [] _ => nameIs sc (if so then "sorted" else "list") f' && noStar a' && chkE T N sc fq a a'
    | _ => false
  | .dof a, e => !T.hot && match e with
    | .Call f' [a'] [] _ => nameIs sc "dict" f' && noStar a' && chkE T N sc fq a a'
    | _ => false
  | .dofT a, e => !T.hot && match e with
    | .Call f' [a'] [] _ => nameIs sc "dict" f' && noStar a' && chkE T N sc fq a a'
    | _ => false
  | .sset a, e => !T.hot && match e with
    | .Call f' [.Call g' [a'] [] _] [] _ => nameIs sc "sorted" f' && nameIs sc "set" g' && noStar a' && chkE T N sc fq a a'
    | _ => false
  | .upd a x, e => match e with
    | .Call (.Attribute a' m ap) [x'] [] cp => decide (m = "update") && noCall0 a' && decide (ap.endLine = cp.line) && noStar x' && chkE T N sc fq a a' && chkE T N sc fq x x'
    | _ => false
  | .ext a x, e => match e with
    | .Call (.Attribute a' m ap) [x'] [] cp => decide (m = "extend") && noCall0 a' && decide (ap.endLine = cp.line) && noStar x' && chkE T N sc fq a a' && chkE T N sc fq x x'
    | _ => false
  | .rev a, e => match e with
    | .Subscript a' (.Slice none none (some (.UnaryOp .USub (.Constant (.int 1) _ _) _)) _) _ => chkE T N sc fq a a'
    | _ => false
def chkKv (T : Tab) (N : List Str) (sc : Scope) (fq : Str → Bool) : Exs → List (Option Expr) → List Expr → Bool
  | .nil, [], [] => true
  | .cons k (.cons v es), some k' :: ks, v' :: vs => chkE T N sc fq k k' && chkE T N sc fq v v' && chkKv T N sc fq es ks vs
  | _, _, _ => false
def chkEs (T : Tab) (N : List Str) (sc : Scope) (fq : Str → Bool) : Exs → List Expr → Bool
  | .nil, [] => true
  | .cons e es, e' :: es' => noStar e' && chkE T N sc fq e e' && chkEs T N sc fq es es'
  | _, _ => false
def chkO (T : Tab) (N : List Str) (sc : Scope) (fq : Str → Bool) : Opt → Option Expr → Bool
  | .none, none => true
  | .some e, some e' => chkE T N sc fq e e'
  | _, _ => false
def chkIf (T : Tab) (N : List Str) (sc : Scope) (fq : Str → Bool) : Opt → List Expr → Bool
  | .none, [] => true
  | .some e, [e'] => tOk e && chkE T N sc fq e e'
  | _, _ => false
def chkTg (T : Tab) (N : List Str) (sc : Scope) (fq : Str → Bool) : Tg → Expr → Bool
  | .name i, e => match e with
    | .Name x _ => decide (N[i]? = some x) && stoB sc fq x
    | _ => false
  | .tup ts, e => !T.hot && match e with
    | .Tuple es _ _ => chkTgs T N sc fq ts es
    | _ => false
  | .sub a b, e => match e with
    | .Subscript a' b' _ => noSlice b' && chkE T N sc fq a a' && chkE T N sc fq b b'
    | _ => false
  | .subD a b, e => match e with
    | .Subscript a' b' _ => noSlice b' && chkE T N sc fq a a' && chkE T N sc fq b b'
    | _ => false
def chkTgs (T : Tab) (N : List Str) (sc : Scope) (fq : Str → Bool) : Tgs → List Expr → Bool
  | .nil, [] => true
  | .cons t ts, e :: es => noStar e && chkTg T N sc fq t e && chkTgs T N sc fq ts es
  | _, _ => false
/-- what a for walks, with its target -/
def chkIt (T : Tab) (N : List Str) (sc : Scope) (fq : Str → Bool) : It → Expr → Expr → Bool
  | .val e, _, e' => chkE T N sc fq e e'
  | .rng1 a, _, e => match e with
    | .Call f' [a'] [] _ => nameIs sc "range" f' && noStar a' && chkE T N sc fq a a'
    | _ => false
  | .rng2 a b, _, e => match e with
    | .Call f' [a', b'] [] _ => nameIs sc "range" f' && noStar a' && noStar b' && chkE T N sc fq a a' && chkE T N sc fq b b'
    | _ => false
  | .rng3 a b c, _, e => match e with
    | .Call f' [a', b', c'] [] _ => nameIs sc "range" f' && noStar a' && noStar b' && noStar c' && chkE T N sc fq a a' && chkE T N sc fq b b' && chkE T N sc fq c c'
    | _ => false
  | .enum a, tg, e => match tg, e with
    | .Tuple _ _ _, .Call f' [a'] [] _ => nameIs sc "enumerate" f' && noStar a' && chkE T N sc fq a a'
    | _, _ => false
  | .zip es, tg, e => match tg, e with
    | .Tuple _ _ _, .Call f' (a' :: es') [] _ => nameIs sc "zip" f' && decide (es'.length = 1) && chkEs T N sc fq es (a' :: es')
    | _, _ => false
  | .zip3 es, tg, e => match tg, e with
    | .Tuple _ _ _, .Call f' (a' :: es') [] _ => nameIs sc "zip" f' && decide (es'.length = 2) && chkEs T N sc fq es (a' :: es')
    | _, _ => false
end
def notLocal (sc : Scope) : Expr → Bool
  | .Name y _ => !(sc.names.lookup y == some .local)
  | _ => true
def noLst : Expr → Bool
  | .List _ _ => false
  | _ => true
/-- how the machine stores -/
def asgOk (sc : Scope) (t e : Expr) : Bool := match t, e with
  | .Name y py, .ListComp _ _ scope p' => (match sc.names.lookup y with
    | some .local => decide (py.line = p'.line) && !(scope.names.any fun nk => nk.1 == y && (nk.2 == .local || nk.2 == .cell))
    | some .cell => true
    | _ => false)
  | .Tuple ts _ _, .Tuple vs _ _ => !(ts.length == 2 || ts.length == 3) || ts.any (notLocal sc)
  | .Subscript _ _ _, .ListComp _ _ _ _ => true
  | t, e => noComp e && noLst t
/-- in an except suite: names are bound, ifs -/
def chkHot (T : Tab) (N : List Str) (sc : Scope) (fq : Str → Bool) : Sts → List Stmt → Bool
  | .nil, [] => true
  | .nil, _ :: _ => false
  | .cons _ _, [] => false
  | .frz _ _, _ => false
  | .cons (.asg (.name j) e) r, s' :: r' => (match s' with
    | .Assign [.Name x px] e' p => chkTg T N sc fq (.name j) (.Name x px) && chkE T N sc fq e e' && asgOk sc (.Name x px) e' && noComp e'
    | _ => false) && chkHot T N sc fq r r'
  | .cons (.ret e) r, s' :: r' => (match s' with
    | .Return (some e') _ => chkE T N sc fq e e'
    | _ => false) && chkHot T N sc fq r r'
  | .cons (.ife c a b) r, s' :: r' => (match s' with
    | .If c' a' b' _ => tOk c && chkE T N sc fq c c' && chkHot T N sc fq a a' && chkHot T N sc fq b b'
    | _ => false) && chkHot T N sc fq r r'
  | _, _ => false
mutual
def chkSt (T : Tab) (N : List Str) (sc : Scope) (fq : Str → Bool) : St → Stmt → Bool
  | .asg t e, s => match s with
    | .Assign [t'] e' p => chkTg T N sc fq t t' && chkE T N sc fq e e' && noStar t' && asgOk sc t' e'
    | _ => false
  | .par i j es, s => !T.hot && match s with
    | .Assign [.Tuple [.Name x px, .Name y py] _ _] (.Tuple [a', b'] _ _) _ => decide (N[i]? = some x) && decide (N[j]? = some y) && decide (i ≠ j) && (match sc.names.lookup x with
        | some .local => true
        | _ => false) && (match sc.names.lookup y with
        | some .local => true
        | _ => false) && decide (x ≠ y) && decide (px.line = py.line) && noStar a' && noStar b' && !([a', b'].all (foldedForSure 8)) && !([a', b'].all (constantsAlone 8)) && chkEs T N sc fq es [a', b']
    | _ => false
  | .par3 i j l es, s => !T.hot && match s with
    | .Assign [.Tuple [.Name x px, .Name y py, .Name z pz] _ _] (.Tuple [a', b', c'] _ _) _ => decide (N[i]? = some x) && decide (N[j]? = some y) && decide (N[l]? = some z) && decide (i ≠ j ∧ i ≠ l ∧ j ≠ l) && (match sc.names.lookup x with
        | some .local => true
        | _ => false) && (match sc.names.lookup y with
        | some .local => true
        | _ => false) && (match sc.names.lookup z with
        | some .local => true
        | _ => false) && decide (x ≠ y ∧ x ≠ z ∧ y ≠ z) && decide (px.line = py.line ∧ px.line = pz.line) && noStar a' && noStar b' && noStar c' && !([a', b', c'].all (foldedForSure 8)) && !([a', b', c'].all (constantsAlone 8)) && chkEs T N sc fq es [a', b', c']
    | _ => false
  | .aug a b op e, s => match s with
    | .AugAssign (.Subscript a' b' _) op' e' _ => noSlice b' && (match op with
      | .add => true
      | .sub => true
      | _ => false) && decide (op' = bopOp op) && chkE T N sc fq a a' && chkE T N sc fq b b' && chkE T N sc fq e e'
    | _ => false
  | .expr e, s => match s with
    | .Expr e' _ => noComp e' && chkE T N sc fq e e'
    | _ => false
  | .ret e, s => match s with
    | .Return (some e') _ => chkE T N sc fq e e'
    | _ => false
  | .ife c a b, s => match s with
    | .If c' a' b' _ => tOk c && chkE T N sc fq c c' && chkSts T N sc fq a a' && chkSts T N sc fq b b'
    | _ => false
  | .for_ t it body, s => !T.hot && match s with
    | .For t' it' body' [] _ => noSet it' && chkIt T N sc fq it t' it' && chkTg T N sc fq t t' && chkSts T N sc fq body body'
    | _ => false
  | .forE t e body, s => !T.hot && match s with
    | .For (.Tuple ts kk tp) (.Call f' [a'] [] cp) body' [] _ => nameIs sc "enumerate" f' && noStar a' && chkE T N sc fq e a' && chkTg T N sc fq t (.Tuple ts kk tp) && chkSts T N sc fq body body'
    | _ => false
  | .forT t e body, s => !T.hot && match s with
    | .For t' e' body' [] _ => noSet e' && chkE T N sc fq e e' && chkTg T N sc fq t t' && chkSts T N sc fq body body'
    | _ => false
  | .while_ c body, s => match s with
    | .While c' body' [] _ => tOk c && chkE T N sc fq c c' && chkSts T N sc fq body body'
    | _ => false
  | .brk, s => match s with
    | .Break _ => true
    | _ => false
  | .cnt, s => match s with
    | .Continue _ => true
    | _ => false
  | .pass, s => match s with
    | .Pass _ => true
    | _ => false
  | .raise c fs es, s => match s with
    | .Raise (some (.Call (.Name n _) (a' :: es') [] _)) none _ => !T.hot && T.C.contains c && decide (n = clsNm c) && okName n && gloB sc n && chkEs T N sc fq es (a' :: es') && decide (fs = clsFs c) && decide (c ≠ 0) &&
      (match fs with
        | [] => decide (es' = [])
        | _ => decide (fs.length = es'.length + 1))
    | _ => false
  | .tryA t e c i suite, s => match s with
    | .Try [b'] [.ExceptHandler (some (.Name n _)) i' (b0 :: su) _] [] [] _ => !T.hot && T.C.contains c && decide (n = clsNm c) && okName n && gloB sc n && (match t, b' with
        | some j, .Assign [.Name x px] e' p => chkTg T N sc fq (.name j) (.Name x px) && chkE T N sc fq e e' && asgOk sc (.Name x px) e' && noComp e'
        | none, .Expr e' _ => noComp e' && chkE T N sc fq e e'
        | _, _ => false) && (match i, i' with
        | none, none => true
        | some j, some x => decide (N[j]? = some x) && (match sc.names.lookup x with
          | some .local => true
          | _ => false)
        | _, _ => false) && chkHot ⟨T.P, T.G, T.C, true⟩ N sc fq suite (b0 :: su)
    | _ => false
  | .bad, _ => true
def chkSts (T : Tab) (N : List Str) (sc : Scope) (fq : Str → Bool) : Sts → List Stmt → Bool
  | .nil, [] => true
  | .cons s r, s' :: r' => chkSt T N sc fq s s' && chkSts T N sc fq r r'
  | .frz _ r, r' => chkSts T N sc fq r r'
  | _, _ => false
end
end MP
end MChk

section MFun
set_option Elab.async false
set_option linter.all false
set_option maxRecDepth 100000
set_option autoImplicit false
set_option maxHeartbeats 1000000
/-! MFun: a def's promise where no repr is running; a def by its body; a call; the law's end. -/
namespace MP
open PySem PySem.Spec PyProof.Rows L2

structure FnG (P : Program) (w : World) (K : PySem.W.Frag) (mg : Str → Option Value) (base : Heap) (CX : CXT) (k : Nat) (f : Addr) (fd : FuncData) (ps : List Str) (sp : Sp) : Prop where
  len : ∀ vs H Q E, sp vs H Q E → vs.length = ps.length
  run : ∀ (A : Around) (ou : List PySem.Env) (s : Shared) (H : Hp) (ar : Args) (us : List Value) (vs : List V) (Q : VK) (E : XK),
    Room k A → A.guards = some [] → Env0 P w K mg base A ou s H → BindsTo s fd ar (ps.zip us) → Vals vs us → sp vs H Q E →
    codeAny (model P w) A (.call (.ref f) ar) (CR CX ou P w H s Q E) s
section
variable {P : Program} {w : World} {K : PySem.W.Frag} {mg : Str → Option Value} {base : Heap} {CX : CXT} {j k : Nat} {f : Addr} {fd : FuncData} {ps : List Str} {sp sp' : Sp}
theorem FnG.mono (F : FnG P w K mg base CX j f fd ps sp) (h : j ≤ k) : FnG P w K mg base CX k f fd ps sp :=
  ⟨F.len, fun A ou s H ar us vs Q E r => F.run A ou s H ar us vs Q E (r.mono h)⟩
theorem FnG.of (F : FnOk P w K mg base CX k f fd ps sp) : FnG P w K mg base CX k f fd ps sp :=
  ⟨F.len, fun A ou s H ar us vs Q E r _ => F.run A ou s H ar us vs Q E r⟩
theorem FnG.imp (F : FnG P w K mg base CX k f fd ps sp) (h : ∀ vs H Q E, sp' vs H Q E → sp vs H Q E) : FnG P w K mg base CX k f fd ps sp' :=
  ⟨fun vs H Q E q => F.len vs H Q E (h _ _ _ _ q), fun A ou s H ar us vs Q E r g e b v q => F.run A ou s H ar us vs Q E r g e b v (h _ _ _ _ q)⟩
end
/-- a def by its body -/
theorem fnG_of {CX : CXT} {P : Program} {w : World} {K : PySem.W.Frag} {mg : Str → Option Value} {base : Heap} {k : Nat} {f : Addr} {x qual : Str} {st : Stmt} {fd : FuncData} {N ps : List Str} {sp : Sp}
    (F : Fun K x qual st f fd) (S : FnScope N ps (defScope st)) (len : ∀ vs H Q E, sp vs H Q E → vs.length = ps.length)
    (bd : ∀ (cdv : Value) (A : Around) (ou : List PySem.Env) (s : Shared) (H : Hp) (vs : List V) (Q : VK) (E : XK), Room k (A.deeper (envOfC qual (defScope st) s.heap.objs.size f cdv)) → A.guards = some [] → sp vs H Q E →
      ∃ t, PSs (cxOf CX P w K mg base N qual (defScope st) f cdv A ou s H E) (defBody st) t ∧ t { nx := fun _ H' => Q .non H', rt := Q } (start N vs) H) :
    FnG P w K mg base CX (k + 1) f fd ps sp := by
  obtain ⟨oc, od, kV, doc, pm, an, cdv, ct, osl, rfl, lk, hcd⟩ := F.ex
  refine ⟨len, fun A ou s H ar us vs Q E room gs e0 bi rel asked => ?_⟩
  have mk := e0.mod.kin
  have inK : K.In s.heap := mk.keeps fun b o e => (e0.bs b o e).1
  have noL : s.heap.NoLimit := e0.mod.nolimit.keeps fun b o e => (e0.bs b o e).1
  refine codeAny_call_function room.depth (inK _ _ lk) rfl S.co S.gen rfl (PySem.W.codeRec_of inK hcd) (bi _ _ _ _ ?_)
  refine wpAny_newFunctionEnv_cells S.kind (fun y hy => ?_) fun env he s1 x => ?_
  · cases S.par y.1 (List.of_mem_zip (a := y.1) (b := y.2) hy).1 with
    | inl q => exact .inl q
    | inr q => exact .inr ⟨q, PySem.W.cellsFrom_some _ _ _ (.inl q)⟩
  · subst he
    refine ⟨noL.keeps x.toInCall.keep, codeAny_func ?_⟩
    obtain ⟨t, runs, ask⟩ := bd cdv A ou s H vs Q E (room.deeper _) gs asked
    have J := inv_start (CX := CX) (mg := mg) (base := base) (E := E) S room.hd e0 (len _ _ _ _ asked) rel x
    refine wpAny_mono (runs.run [] s1 _ H _ J ask) (fun fl s' got => ?_) fun _ _ got => got
    cases fl with
    | ret u =>
      obtain ⟨v, σ', H', J', rv, q⟩ := got
      exact ⟨v, H', J'.os, J'.bare, J'.base, J'.hok, rv, q⟩
    | next =>
      obtain ⟨σ', H', J', q⟩ := got
      exact ⟨.non, H', J'.os, J'.bare, J'.base, J'.hok, rfl, q⟩
    | brk =>
      obtain ⟨_, _, _, q⟩ := got
      exact q.elim
    | cont =>
      obtain ⟨_, _, _, q⟩ := got
      exact q.elim
section
variable {X : Cx} {CX : CXT} {k : Nat} {f : Addr} {fd : FuncData} {ps : List Str} {sp : Sp} {EX : L2.St → XK} {x : Str} {p pos : Pos} {e : Expr} {es : List Expr} {t : TA}
theorem run_G {pins : List (Addr × Obj)} {σ : L2.St} {H : Hp} {s : Shared} {Q : VK} {us : List Value} {vs : List V} (F : FnG X.prog X.w X.K X.mg X.base CX k f fd ps sp) (hr : Room k X.A) (gs : X.A.guards = some [])
    (hb : Binds X.K fd ps []) (hx : PassesAt CX X σ (EX σ)) (I : Inv X pins σ H s) (r : Vals vs us) (h : sp vs H Q (EX σ)) :
    wpAny (model X.prog X.w) X.A (call (.ref f) us) (EP X pins σ Q) X.xe s := by
  have many : us.length = ps.length := by
    rw [← r.length]
    exact F.len _ _ _ _ h
  have b := hb s us I.kIn (by simpa using many)
  rw [List.append_nil] at b
  have c := F.run X.A X.stack s H ⟨us, []⟩ us vs Q (EX σ) hr gs I.env0 b r h
  refine wpAny_call (codeAny_mono c fun res s' got => ?_)
  match res, got with
  | .error er, got => exact hx pins H s er s' I got
  | .ok (.ret u), got => exact I.after got
  | .ok .next, got => exact got.elim
  | .ok .brk, got => exact got.elim
  | .ok .cont, got => exact got.elim
/-- f(e, ..) -/
theorem pe_callG (F : FnG X.prog X.w X.K X.mg X.base CX k f fd ps sp) (hr : Room k X.A) (gs : X.A.guards = some []) (hg : Gl X x) (hm : X.mg x = some (.ref f))
    (hk : PySem.W.keepIn X.K (.ref f) = true) (hb : Binds X.K fd ps []) (hx : ∀ σ, PassesAt CX X σ (EX σ)) (ha : PA X (e :: es) t) (hdb : (x == ("__debug__" : Str)) = false)
    (he : starEach (e :: es) X.env = (false, eval e X.env) :: starEach es X.env) (hpl : (backTo pos (starEach es X.env)).any (·.1) = false) : PE X (.Call (.Name x p) (e :: es) [] pos) (tCallS sp EX t) :=
  ⟨fun pins s σ H Q I h => wpAny_Call_Name_kw (ld_glob I hg hm (PySem.W.callWith_K (h₀ := X.base) I.ok.mod.kin hk
    (thn (ha.run pos pins s σ H _ I h) fun us s1 ⟨vs, H1, I1, r, q⟩ => ⟨I1.kIn, run_G F hr gs hb (hx σ) I1 r q⟩) he hpl) hdb)⟩
end
/-- the law's call, at the heap that the top has left -/
theorem law_G {P : Program} {w : World} {K : PySem.W.Frag} {mg mb : Str → Option Value} {CX : CXT} {k : Nat} {fa a : Addr} {fd : FuncData} {x : Str} {sp : Sp} {s1 : Shared} {vs : List Value} {ns : List Int}
    (kin : K.In s1.heap) (nsm : s1.heap.Ns mainGlobals mg) (nsb : s1.heap.Ns builtinsNs mb) (bb : ∀ x : Str, x ≠ "__name__" → mb x = bootBuiltins x) (noL : s1.heap.NoLimit) (gens : s1.gens = #[])
    (la : s1.heap.get? a = some { cls := .type "list", data := .seq vs.toArray }) (li : IntsAre vs ns) (ln : ns.length ≤ sizeLine) (room : Room k callerA) (gs : callerA.guards = some [])
    (F : ∀ base : Heap, K.In base → base.Ns mainGlobals mg → FnG P w K mg base CX k fa fd [x] sp) (bi : Binds K fd [x] []) (nl : ∀ a o, K.lookup a = some o → o.cls ≠ .type "list")
    (asks : ∀ (H : Hp) (ob : Obj), H a = some (.frz ob (.lst (ns.map V.int))) → sp [.ref a] H (fun v _ => v = .bl true) E0) (noX : ∀ H e s', CX [] H s1 E0 e s' → False) :
    codeAny (model P w) callerA (.call (.ref fa) ⟨[.ref a], []⟩) (fun r s' => r = .ok (.ret (.bool true)) ∧ OldK s1.heap s'.heap ∧ s'.os = s1.os ∧ AllBare s'.gens) s1 := by
  have rel : Vals (ns.map V.int) vs := vals_ints li
  have hk : K.lookup a = none := by
    cases hk : K.lookup a with
    | none => rfl
    | some o =>
      have e := kin a o hk
      rw [la] at e
      cases e
      exact (nl a _ hk rfl).elim
  obtain ⟨H, hit, miss⟩ : ∃ H : Hp, H a = some (.frz { cls := .type "list", data := .seq vs.toArray } (.lst (ns.map V.int))) ∧ ∀ b, b ≠ a → H b = none :=
    ⟨fun b => if b = a then some (.frz { cls := .type "list", data := .seq vs.toArray } (.lst (ns.map V.int))) else none, if_pos rfl, fun b e => if_neg e⟩
  have atA : ∀ b, H b ≠ none → b = a := fun b z => Classical.byContradiction fun e => z (miss b e)
  have hok : HOk P w H s1.heap := fun b u z => by
    rcases Classical.em (b = a) with e | e
    · subst e
      rw [hit] at z
      cases z
      exact ⟨la, by rw [List.length_map]; exact ln, vs, _, rel, la⟩
    · rw [miss b e] at z
      cases z
  have keepB : ∀ {b : Addr} {o : Obj}, s1.heap.get? b = some o → H b = none → (hidT s1.heap H).get? b = some o := fun e n => hidT_get e n
  have noD : ∀ {b : Addr} {o : Obj} {es : Array DictEntry} {ep : Nat}, s1.heap.get? b = some o → o.data = .dict es ep → H b = none := fun {b o es ep} e d => by
    cases q : H b with
    | none => rfl
    | some u =>
      obtain rfl := atA b (by rw [q]; simp)
      rw [la] at e
      cases e
      exact nomatch (show Data.seq vs.toArray _ = Data.dict es ep from d)
  have keepN : ∀ {b : Addr} {m : Str → Option Value}, s1.heap.Ns b m → (hidT s1.heap H).Ns b m := fun ⟨o, es, ep, e, d, r⟩ => ⟨o, es, ep, keepB e (noD e d), d, r⟩
  have kinB : K.In (hidT s1.heap H) := fun b o e => keepB (kin b o e) (by
    cases q : H b with
    | none => rfl
    | some u =>
      obtain rfl := atA b (by rw [q]; simp)
      rw [hk] at e
      cases e)
  obtain ⟨mc, l1, l2⟩ := noL
  have modl : Mod K mg (hidT s1.heap H) := ⟨kinB, keepN nsm, ⟨mb, keepN nsb, bb⟩, mc, keepN l1, l2⟩
  have e0 : Env0 P w K mg (hidT s1.heap H) callerA [] s1 H :=
    ⟨rfl, modl, fun b o e => of_hidT e, Nat.le_of_eq (hidT_size _ _), trivial, fun b hb => (List.not_mem_nil (show b ∈ ([] : List Addr) from hb)).elim, hok, .of_eq gens⟩
  have run := (F _ kinB (keepN nsm)).run callerA [] s1 H ⟨[.ref a], []⟩ [.ref a] [.ref a] _ _ room gs e0 (bi s1 [.ref a] kin rfl) (.cons rfl .nil) (asks H _ hit)
  refine codeAny_mono run fun r s' h => ?_
  match r, h with
  | .error e, h => exact (noX H e s' h).elim
  | .ok .next, h => exact False.elim h
  | .ok .brk, h => exact False.elim h
  | .ok .cont, h => exact False.elim h
  | .ok (.ret u), h =>
    obtain ⟨v, H', os, bare, un, hok', r', q⟩ := h
    obtain rfl : v = .bl true := q
    obtain rfl : u = Value.bool true := r'
    refine ⟨rfl, OldK.of_keep fun b o e => ?_, os, bare⟩
    rcases Classical.em (b = a) with z | z
    · subst z
      have y1 := (hok b _ hit).1
      have y2 := (hok' b _ (un.frzs b _ _ hit)).1
      rw [e] at y1
      cases y1
      exact y2
    · exact un.keep b o e (miss b z) (fun y => List.not_mem_nil (show b ∈ ([] : List Addr) from y)) (by simp)
/-- the end of a law row -/
theorem walk_G {l : PySem.W.OpenLaw} {n k : Nat} {q : Program} {loose : List Str} {XP : (Str → Option Value) → Heap → Prop} {YP : World → Heap → Prop} {d : DefRec} {K : Params → PySem.W.Frag} {CX : World → CXT} {sp : World → Sp} {x : Str}
    (hn : l.most = some n) (hn2 : n ≤ sizeLine) (hdf : d.params.defaults = []) (hr : Room k callerA) (gs : callerA.guards = some []) (hY : ∀ (w : World) (h : Heap), YP w h → (K w.params).In h)
    (F : ∀ (w : World) (mg : Str → Option Value) (fa : Addr) (h : Heap), (K w.params).In h → h.Ns mainGlobals mg → mg d.name = some (.ref fa) →
      ∃ fd : FuncData, Binds (K w.params) fd [x] [] ∧ ∀ base : Heap, (K w.params).In base → base.Ns mainGlobals mg → FnG l.prog w (K w.params) mg base (CX w) k fa fd [x] (sp w))
    (nl : ∀ (w : World) a o, (K w.params).lookup a = some o → o.cls ≠ .type "list") (asks : ∀ (w : World) (H : Hp) (a : Addr) (ob : Obj) (ns : List Int), ns.length ≤ n → H a = some (.frz ob (.lst (ns.map V.int))) → sp w [.ref a] H (fun v _ => v = .bl true) E0)
    (noX : ∀ (w : World) (H : Hp) (s : Shared) (e : Value) (s' : Shared), CX w [] H s E0 e s' → False) :
    PySem.W.WalkO q loose XP YP l.row.toRowW d [] (fun f vs => PySem.call f vs) :=
  Att.attach_call hn hdf fun w s₀ s1 mg mb fa o pm cd doc a vs ns G Y ho hd hcd hmg la li ln gens => by
    have kin := hY w _ Y
    obtain ⟨fd, bi, hF⟩ := F w mg fa _ kin G.T.g hmg
    exact law_G kin G.T.g G.T.b G.T.builtins G.T.nolimit gens la li (Nat.le_trans ln hn2) hr gs hF bi (nl w) (fun H ob h => asks w H a ob ns ln h) fun H e s' => noX w H s1 e s'
end MP
end MFun

section MSnd
set_option Elab.async false
set_option linter.all false
set_option maxRecDepth 100000
set_option autoImplicit false
set_option maxHeartbeats 1000000
/-! MSnd: what MPy's evaluator says of an expression, the machine does. -/
namespace MP
open PySem PySem.Spec PyProof.Rows L2
variable [Cla]
variable {Fx : FX} {Ef : L2.St → FX} {Xp : Exc → Store → Prop}

/-! ### more of runs in the world -/
section
variable {α β γ δ : Type} {W0 W : Wd} {H0 H : Hp} {R : Hp → Wd → Hp → β → α → Prop} {R1 : Hp → Wd → Hp → δ → γ → Prop} {st : Store} {Q Q' : β → Hp → Prop}
theorem At.move {m : M α} {W' : Wd} (h : At Fx W0 H0 R m W H st Q) (x : Ext W0 H0 W' H) (g : Gd W' st H) : At Fx W0 H0 R m W' H st Q := ⟨x, g, h.2.2⟩
/-- a value kept: what was just made becomes data -/
theorem keep_own {d : D} {v : V} {W' : Wd} {H' : Hp} (r : DR H0 W H v d) (x : Ext W0 H0 W H) (g : Gd W st H) :
    ∃ W2, Ext W0 H0 W2 H ∧ Gd W2 st H ∧ DE W2 H v (keep d) ∧ (∀ ρ σ, EnvR W H ρ σ → EnvR W2 H ρ σ) ∧ (∀ u e, DE W H u e → DE W2 H u e) := by
  cases d with
  | dat d => exact ⟨W, x, g, r, fun _ _ h => h, fun _ _ h => h⟩
  | ref i => exact ⟨W, x, g, r, fun _ _ h => h, fun _ _ h => h⟩
  | tree ts => exact ⟨W, x, g, r, fun _ _ h => h, fun _ _ h => h⟩
  | newL xs =>
    obtain ⟨p, vs, rfl, hp, l, n, q⟩ := r
    exact ⟨W.addI p, x.own n, g.own l, .lst (.inl rfl) (.inl hp) q.own, fun _ _ h => h.own, fun _ _ h => h.own⟩
  | newD t kvs =>
    obtain ⟨p, rfl, l, n, q⟩ := r
    refine ⟨W.addI p, x.own n, g.own l, ?_, fun _ _ h => h.own, fun _ _ h => h.own⟩
    cases t with
    | false =>
      obtain ⟨ks, e, k⟩ := q
      exact .dctK (.inl rfl) e (k.mono (fun _ h => .inr h) fun _ _ _ e => e)
    | true =>
      obtain ⟨ks, e, k⟩ := q
      exact .dctT (.inl rfl) e (k.mono (fun _ h => .inr h) fun _ _ _ e => e)
/-- a value that comes to stand in data -/
theorem At.settle {d : D} {v : V} {k : PyData → M α} (h : At Fx W0 H0 R (settle d >>= k) W H st Q) (r : DR H0 W H v d) :
    ∃ u W2 st2, Dv W2.im H v u ∧ (∀ ρ σ, EnvR W H ρ σ → EnvR W2 H ρ σ) ∧ (∀ u e, DE W H u e → DE W2 H u e) ∧ (∀ u e, DvAll W.im H u e → DvAll W2.im H u e) ∧ At Fx W0 H0 R (k u) W2 H st2 Q := by
  obtain ⟨x, g, w⟩ := h
  rw [wp_bind] at w
  cases d with
  | dat d => exact ⟨d, W, st, r, fun _ _ h => h, fun _ _ h => h, fun _ _ h => h, x, g, w⟩
  | tree ts => exact w.elim
  | ref i =>
    obtain ⟨a, ha, rfl⟩ := r
    obtain ⟨xs, hx, w⟩ := wp_settleR.mp w
    obtain ⟨_, vs, hv, q⟩ := g.live hx ha
    exact ⟨.list xs, W.addI a, _, .lst (.inl rfl) (.inl hv) q.own, fun _ _ h => h.own, fun _ _ h => h.own, fun _ _ h => h.own, x.still (List.mem_of_getElem? ha), g.still ha, w⟩
  | newL xs =>
    obtain ⟨p, vs, rfl, hp, l, n, q⟩ := r
    exact ⟨.list xs, W.addI p, st, .lst (.inl rfl) (.inl hp) q.own, fun _ _ h => h.own, fun _ _ h => h.own, fun _ _ h => h.own, x.own n, g.own l, w⟩
  | newD t kvs =>
    obtain ⟨p, rfl, l, n, q⟩ := r
    refine ⟨.dict kvs, W.addI p, st, ?_, fun _ _ h => h.own, fun _ _ h => h.own, fun _ _ h => h.own, x.own n, g.own l, w⟩
    cases t with
    | false =>
      obtain ⟨ks, e, k⟩ := q
      exact .dctK (.inl rfl) e (k.mono (fun _ h => .inr h) fun _ _ _ e => e)
    | true =>
      obtain ⟨ks, e, k⟩ := q
      exact .dctT (.inl rfl) e (k.mono (fun _ h => .inr h) fun _ _ _ e => e)
theorem At.looks {k : List PyData → M α} : ∀ {ds : List D} {vs : List V}, At Fx W0 H0 R (looks ds >>= k) W H st Q → Paired (DE W H) vs ds → ∃ us, Paired (fun v u => Vw W H v u) vs us ∧ At Fx W0 H0 R (k us) W H st Q
  | [], _, h, .nil => ⟨[], .nil, h⟩
  | d :: ds, v :: vs, h, .cons r t => by
    have h' : At Fx W0 H0 R (do
      let x ← MP.look d
      let xs ← MP.looks ds
      k (x :: xs)) W H st Q := by
      obtain ⟨x, g, w⟩ := h
      refine ⟨x, g, ?_⟩
      unfold MP.looks at w
      simp only [wp_bind, wp_pure] at w ⊢
      exact w
    obtain ⟨u, hu, h'⟩ := h'.look (r.dr (H0 := H0))
    obtain ⟨us, hus, h'⟩ := At.looks h' t
    exact ⟨u :: us, .cons hu hus, h'⟩
theorem At.assoc {m : M γ} {f : γ → M δ} {k : δ → M α} (h : At Fx W0 H0 R ((m >>= f) >>= k) W H st Q) : At Fx W0 H0 R (m >>= fun a => f a >>= k) W H st Q := by
  obtain ⟨x, g, w⟩ := h
  refine ⟨x, g, ?_⟩
  simp only [wp_bind] at w ⊢
  exact w
theorem At.asInt {d : D} {v : V} {k : Int → M α} {H9 : Hp} (h : At Fx W0 H0 R (asInt d >>= k) W H st Q) (r : DR H9 W H v d) : ∃ i, v = .int i ∧ At Fx W0 H0 R (k i) W H st Q := by
  obtain ⟨u, hu, h⟩ := At.look (At.assoc h) r
  obtain ⟨i, e, h⟩ := h.ofO
  cases u <;> first | (cases e; done) | skip
  cases e
  exact ⟨_, hu.int, h⟩
theorem At.asBool {d : D} {v : V} {k : Bool → M α} {H9 : Hp} (h : At Fx W0 H0 R (asBool d >>= k) W H st Q) (r : DR H9 W H v d) : ∃ i, v = .bl i ∧ At Fx W0 H0 R (k i) W H st Q := by
  obtain ⟨u, hu, h⟩ := At.look (At.assoc h) r
  obtain ⟨i, e, h⟩ := h.ofO
  cases u <;> first | (cases e; done) | skip
  cases e
  exact ⟨_, hu.bool, h⟩
theorem At.refOf {d : D} {v : V} {k : Nat → M α} {H9 : Hp} (h : At Fx W0 H0 R (MP.refOf d >>= k) W H st Q) (r : DR H9 W H v d) : ∃ i a, d = .ref i ∧ W.eta[i]? = some a ∧ v = .ref a ∧ At Fx W0 H0 R (k i) W H st Q := by
  cases d with
  | ref i =>
    obtain ⟨a, ha, rfl⟩ := r
    exact ⟨i, a, rfl, ha, rfl, h⟩
  | _ => exact h.2.2.elim
theorem At.cellAt {i : Nat} {a : Addr} {k : List PyData → M α} (h : At Fx W0 H0 R (MP.cellAt i >>= k) W H st Q) (ha : W.eta[i]? = some a) : ∃ xs vs, st[i]? = some (.lst xs) ∧ ¬ W.im a ∧ H a = some (.lst vs) ∧ DvAll W.im H vs xs ∧ At Fx W0 H0 R (k xs) W H st Q := by
  obtain ⟨x, g, w⟩ := h
  rw [wp_bind] at w
  obtain ⟨xs, hx, w⟩ := wp_cellAt.mp w
  obtain ⟨n, vs, hv, q⟩ := g.live hx ha
  exact ⟨xs, vs, hx, n, hv, q, x, g, w⟩
/-- a cell is written -/
theorem At.putCell {i : Nat} {a : Addr} {c : Cell} {o : HO} {k : Unit → M α} (h : At Fx W0 H0 R (MP.putCell i c >>= k) W H st Q) (ha : W.eta[i]? = some a) (n : ¬ W.im a) (hc : CellOk W (upd H a o) a c) : At Fx W0 H0 R (k ()) W (upd H a o) (st.set i c) Q := by
  obtain ⟨x, g, w⟩ := h
  rw [wp_bind] at w
  exact ⟨x.write (List.mem_of_getElem? ha) n, g.write ha n hc, wp_putCell.mp w⟩
theorem At.toBind {m : M α} (h : At Fx W0 H0 R m W H st Q) : At Fx W0 H0 R (m >>= fun a => Pure.pure a) W H st Q := by
  obtain ⟨x, g, w⟩ := h
  refine ⟨x, g, ?_⟩
  simp only [wp_bind, wp_pure]
  exact w
end
abbrev RAs : Hp → Wd → Hp → List V → List D → Prop := fun _ W H vs ds => Paired (DE W H) vs ds
section
variable {σ : L2.St} {H : Hp}
theorem _root_.L2.PE.imp {X : Cx} {e : Expr} {t t' : TE} (h : PE X e t) (i : ∀ σ H Q, t' σ H Q → t σ H Q) : PE X e t' := ⟨fun pins s σ H Q I w => h.run pins s σ H Q I (i _ _ _ w)⟩
theorem _root_.L2.PT.imp {X : Cx} {e : Expr} {t t' : TT} (h : PT X e t) (i : ∀ σ H Q, t' σ H Q → t σ H Q) : PT X e t' := ⟨fun pins s σ H Q I w => h.run pins s σ H Q I (i _ _ _ w)⟩
theorem _root_.L2.PA.imp {X : Cx} {e : List Expr} {t t' : TA} (h : PA X e t) (i : ∀ σ H Q, t' σ H Q → t σ H Q) : PA X e t' := ⟨fun pos pins s σ H Q I w => h.run pos pins s σ H Q I (i _ _ _ w)⟩
theorem _root_.L2.PO.imp {X : Cx} {e : Option Expr} {t t' : TO} (h : PO X e t) (i : ∀ σ H Q, t' σ H Q → t σ H Q) : PO X e t' := ⟨fun pins s σ H Q I w => h.run pins s σ H Q I (i _ _ _ w)⟩
theorem _root_.L2.PTs.imp {X : Cx} {e : List Expr} {t t' : TT} (h : PTs X e t) (i : ∀ σ H Q, t' σ H Q → t σ H Q) : PTs X e t' := ⟨fun pins s σ H Q I w => h.run pins s σ H Q I (i _ _ _ w)⟩
theorem _root_.L2.PI.imp {X : Cx} {tg e : Expr} {t t' : TI} (h : PI X tg e t) (i : ∀ σ H Q, t' σ H Q → t σ H Q) : PI X tg e t' := ⟨fun pins s σ H Q I w => h.run pins s σ H Q I (i _ _ _ w)⟩
theorem _root_.L2.PG.imp {X : Cx} {e : Expr} {t t' : TG} (h : PG X e t) (i : ∀ v σ H Q, t' v σ H Q → t v σ H Q) : PG X e t' := ⟨fun pins s σ H v u Q I r w => h.run pins s σ H v u Q I r (i _ _ _ _ w)⟩
theorem _root_.L2.PGs.imp {X : Cx} {e : List Expr} {t t' : TGs} (h : PGs X e t) (i : ∀ v σ H Q, t' v σ H Q → t v σ H Q) : PGs X e t' := ⟨fun pins s σ H v u Q I r w => h.run pins s σ H v u Q I r (i _ _ _ _ w)⟩
theorem _root_.L2.PS.imp {X : Cx} {e : Stmt} {t t' : TS} (h : PS X e t) (i : ∀ D σ H, t' D σ H → t D σ H) : PS X e t' := ⟨fun pins s σ H D I w => h.run pins s σ H D I (i _ _ _ w)⟩
theorem _root_.L2.PSs.imp {X : Cx} {e : List Stmt} {t t' : TS} (h : PSs X e t) (i : ∀ D σ H, t' D σ H → t D σ H) : PSs X e t' := ⟨fun pins s σ H D I w => h.run pins s σ H D I (i _ _ _ w)⟩
/-- one value, then what is done with it -/
theorem rG_then {α β : Type} {R : Hp → Wd → Hp → β → α → Prop} {m1 : Env → M D} {k : D → Env → M α} {Q : β → Hp → Prop} (h : rG Ef R (fun ρ => m1 ρ >>= fun d => k d ρ) σ H Q) :
    rG Ef DR m1 σ H fun v H1 => ∃ W ρ d W1 st1, EnvR W H ρ σ ∧ Ext W H W1 H1 ∧ DR H W1 H1 v d ∧ At (Ef σ) W H R (k d ρ) W1 H1 st1 Q := by
  obtain ⟨W, ρ, st, er, h⟩ := h
  exact ⟨W, ρ, st, er, (At.bind (R1 := DR) h).mono fun b H' ⟨a, W1, st1, x, r, h'⟩ => ⟨W, ρ, a, W1, st1, er, x, r, h'⟩⟩
theorem rG_two {α β : Type} {R : Hp → Wd → Hp → β → α → Prop} {m1 m2 : Env → M D} {k : D → D → Env → M α} {Q : β → Hp → Prop} (h : rG Ef R (fun ρ => m1 ρ >>= fun d => m2 ρ >>= fun e => k d e ρ) σ H Q) :
    rG Ef DR m1 σ H fun v H1 => rG Ef DR m2 σ H1 fun u H2 => ∃ W ρ d e W2 st2, EnvR W H ρ σ ∧ Ext W H W2 H2 ∧ DR H W2 H2 v d ∧ DR H W2 H2 u e ∧ At (Ef σ) W H R (k d e ρ) W2 H2 st2 Q := by
  obtain ⟨W, ρ, st, er, h⟩ := h
  refine ⟨W, ρ, st, er, (At.bind (R1 := DR) h).mono ?_⟩
  rintro v H1 ⟨d, W1, st1, x1, r1, h1⟩
  refine ⟨W1, ρ, st1, er.mono x1, (At.bind (R1 := DR) h1).mono ?_⟩
  rintro u H2 ⟨e, W2, st2, x2, r2, h2⟩
  exact ⟨W, ρ, d, e, W2, st2, er, x1.trans x2, r1.mono x2, r2.base fun p n => x1.fresh n, h2⟩
theorem rG_bin {f : PyData → PyData → Option D} {m1 m2 : Env → M D} {Q : V → Hp → Prop} (h : rG Ef DR (fun ρ => do
      let x ← m1 ρ
      let y ← m2 ρ
      let u ← look x
      let v ← look y
      ofO (f u v)) σ H Q) : tOp (rV2 f) (rG Ef DR m1) (rG Ef DR m2) σ H Q := by
  obtain ⟨W, ρ, st, er, h'⟩ := rG_two h
  refine ⟨W, ρ, st, er, h'.mono fun v H1 ⟨W1, ρ1, st1, er1, h1⟩ => ⟨W1, ρ1, st1, er1, h1.mono ?_⟩⟩
  rintro u H2 ⟨W', ρ', d, e, W2, st2, _, _, r1, r2, h2⟩
  exact rV2.of_at h2 r1 r2
theorem rG_test {m : Env → M D} {Q : Bool → Hp → Prop} (h : rG Ef REq (fun ρ => m ρ >>= asBool) σ H Q) : rG Ef DR m σ H fun v H' => ∃ k, v = .bl k ∧ Q k H' := by
  obtain ⟨W, ρ, st, er, h'⟩ := rG_then h
  refine ⟨W, ρ, st, er, h'.mono ?_⟩
  rintro v H1 ⟨W', ρ', d, W1, st1, _, x1, r1, h1⟩
  obtain ⟨i, e, h2⟩ := h1.toBind.asBool r1
  exact ⟨i, e, h2.pure _ _ _ h2.1 h2.2.1 rfl⟩
end

/-! ### what is known where a def's body runs -/
/-- how an exception stands in the heap -/
abbrev XR := (Addr → Prop) → Hp → Exc → Value → Option Addr → Prop
def efOf (xr : XR) (EX : L2.St → XK) : L2.St → FX := fun σ W H x => ∀ c d, xr W.im H x c d → EX σ c d H
/-- what MPy's run of def f says -/
def spOf (xr : XR) (C : Ctx) (f : Nat) : Sp := fun vs H Q E => ∃ W st args, Gd W st H ∧ Paired (DE W H) vs args ∧
  wp (XAt (fun W' H' x => ∀ c d, xr W'.im H' x c d → E c d H') W H) (C.call f args) st fun d st' => ∀ W' H' v, Ext W H W' H' → Gd W' st' H' → DR H W' H' v d → Q v H'
/-- an exception in the air -/
def xrC : XR := fun I H x cls d => Cla.ok x.cls = true ∧ cls = .ref (Cla.a x.cls) ∧ FldR I H d x.fs
/-- an own __init__: the base's, then the fields are kept -/
def initB (c : Nat) : List Stmt → Bool
  | [.Expr (.Call (.Attribute (.Name "TableError" _) "__init__" ap) [.Name "self" _, .Name y _] [] cp) _, .Assign [.Attribute (.Name "self" _) f1 _] (.Name g1 _) p1] => decide (ap.endLine = cp.line) && decide (clsFs c = [f1]) && decide (g1 = f1) && decide (y = f1)
  | [.Expr (.Call (.Attribute (.Name "TableError" _) "__init__" ap) [.Name "self" _, .Constant (.str _) _ _] [] cp) _, .Assign [.Attribute (.Name "self" _) f1 _] (.Name g1 _) p1] => decide (ap.endLine = cp.line) && decide (clsFs c = [f1]) && decide (g1 = f1)
  | [.Expr (.Call (.Attribute (.Name "TableError" _) "__init__" ap) [.Name "self" _, .Name y _] [] cp) _, .Assign [.Attribute (.Name "self" _) f1 _] (.Name g1 _) p1, .Assign [.Attribute (.Name "self" _) f2 _] (.Name g2 _) p2] =>
    decide (ap.endLine = cp.line) && decide (clsFs c = [f1, f2]) && decide (g1 = f1) && decide (g2 = f2) && decide (y = f1)
  | _ => false
/-- an own class with an own __init__ -/
def OexP (K : PySem.W.Frag) (C : Addr) (c : Nat) : Prop := OexC K C ∧ ∃ (st : Stmt) (fI : Addr) (fd : FuncData) (qn : Str), PySem.W.findIn K (.ref C) "__init__" = some (some (.ref fI)) ∧ PySem.W.typeIn K (.ref fI) = some (.type "function") ∧ Fun K "__init__" qn st fI fd ∧
    initB c (defBody st) = true ∧ FnScope ("self" :: clsFs c) ("self" :: clsFs c) (defScope st) ∧ Binds K fd ("self" :: clsFs c) [] ∧ (defScope st).names.lookup ("TableError" : Str) = some .globalImplicit
/-- what the written part says of the class number c, and of how its exceptions are made -/
structure ClsOk (K : PySem.W.Frag) (mg : Str → Option Value) (C : List Nat) (c : Nat) : Prop where
  ok : Cla.ok c = true
  gC : mg (clsNm c) = some (.ref (Cla.a c))
  kC : PySem.W.keepIn K (.ref (Cla.a c)) = true
  exC : PySem.W.subIn K (.ref (Cla.a c)) (.type "BaseException") = some true
  ve : PySem.W.subIn K (.ref (Cla.a c)) (.type "ValueError") = some true
  tyC : PySem.W.typeIn K (.ref (Cla.a c)) = some (.type "type")
  hdC : PySem.W.hasDictIn K (Cla.a c) = true
  isC : (PySem.W.clsIn K (Cla.a c)).isSome = true
  ga : PySem.W.findIn K (.ref (Cla.a c)) "__getattribute__" = some (some (.builtin "BaseException.__getattribute__"))
  gg : PySem.W.findIn K (.ref (Cla.a c)) "__getattr__" = some none
  fl : ∀ f ∈ fldNms, PySem.W.findIn K (.ref (Cla.a c)) f = some none
  ca : PySem.W.findIn K (.ref (Cla.a c)) "__class__" = some (some (.builtin "object.__class__"))
  cm : PySem.W.mroIn K (Cla.a c) (.type "object") = some true
  cn : PySem.W.specialIn K (.builtin "object.__class__") "__get__" = some (some (.builtin "getset_descriptor.__get__"))
  ct : PySem.W.takesIn K (.builtin "object.__class__") = some true
  sub : ∀ c' ∈ C, PySem.W.subIn K (.ref (Cla.a c)) (.ref (Cla.a c')) = some (subC c c')
  ne : ∀ c' ∈ C, c ≠ c' → Cla.a c ≠ Cla.a c'
  pl : c ≠ 0 → clsFs c = [] → PySem.W.excIn K (Cla.a c) [.type "ValueError", .type "Exception", .type "BaseException", .type "object"] "ValueError.__new__" = true
  oex : c ≠ 0 → clsFs c ≠ [] → OexP K (Cla.a c) c
/-- what is asked of the base of all -/
structure BasOk (K : PySem.W.Frag) (mg : Str → Option Value) : Prop where
  gT : mg "TableError" = some (.ref (Cla.a 0))
  rd : PySem.W.readsIn K (Cla.a 0) (.type "type") = true
  sp : PySem.W.specialIn K (.ref (Cla.a 0)) "__getattribute__" = some (some (.builtin "type.__getattribute__"))
  fi : PySem.W.findCls K (.ref (Cla.a 0)) (.type "type") "__init__" = some (.val (.builtin "ValueError.__init__"))
structure XOk (T : Tab) (xr : XR) (CX : CXT) (EX : L2.St → XK) (C : Ctx) (k : Nat) (X : Cx) (N : List Str) (sc : Scope) (fq : Str → Bool) : Prop where
  names : X.N = N
  nd : N.Nodup
  scope : X.env.scope = sc
  fn : X.fn = fq
  calm : T.hot = false → X.calm = true
  room : T.hot = false → Room (k + 2) X.A
  un : X.A.units + 64 < cLine
  cx : CX = L2.CX X.prog X.w
  tk : Takes X (fun c d σ H => EX σ c d H)
  cls : ∀ c ∈ T.C, ClsOk X.K X.mg T.C c
  bas : T.C ≠ [] → BasOk X.K X.mg
  clo : ∀ c, Cla.ok c = true → c ∈ T.C
  gd : X.A.guards = some []
  px : ∀ σ, PassesAt CX X σ (EX σ)
  nx : ∀ o H s e s', CX o H s E0 e s' → False
  fns : ∀ f d, T.P[f]? = some d → ∃ fa fd, X.mg d.name = some (.ref fa) ∧ PySem.W.keepIn X.K (.ref fa) = true ∧ Binds X.K fd d.ps [] ∧ (∀ vs H Q E, spOf xr C f vs H Q E → vs.length = d.ps.length) ∧ FnG X.prog X.w X.K X.mg X.base CX (k + 2) fa fd d.ps (spOf xr C f)
  bl : ∀ x ∈ builtinNames, X.mg x = none
  gl : ∀ p ∈ T.G, ∃ v u, X.mg p.1 = some u ∧ RelV v u ∧ Dv (fun _ => False) (fun _ => none) v p.2
theorem XOk.blk {T : Tab} {xr : XR} {CX : CXT} {EX : L2.St → XK} {C : Ctx} {k : Nat} {X : Cx} {N : List Str} {sc : Scope} {fq : Str → Bool} (x : XOk T xr CX EX C k X N sc fq) (s : Shared) (H : Hp) (scope : Scope) (c : Addr) (cl : List (Str × Addr)) (fp : List Addr) :
    XOk T xr CX (fun _ => E0) C k (X.blk s H scope (compEnvC scope cl c X.env) fp) N (blkSc scope sc) (fun x => scope.names.lookup x == some .cell) :=
  ⟨x.names, x.nd, by show relS scope X.env.scope = _; rw [x.scope]; rfl, rfl, x.calm, x.room, x.un, x.cx, fun u s' ⟨_, _, _, _, _, _, _, _, _, _, _, _, _, _, _, _, w⟩ => w.elim, x.cls, x.bas, x.clo, x.gd, fun _ _ _ _ _ _ _ z => (x.nx _ _ _ _ _ z).elim, x.nx, x.fns, x.bl, x.gl⟩
section
variable {T : Tab} {xr : XR} {CX : CXT} {EX : L2.St → XK} {C : Ctx} {k : Nat} {X : Cx} {N : List Str} {sc : Scope} {fq : Str → Bool} {e : Expr} {es : List Expr}
theorem star_cons (h : noStar e = true) : starEach (e :: es) X.env = (false, eval e X.env) :: starEach es X.env := by
  cases e <;> first | rfl | (cases h)
theorem XOk.gl' (x : XOk T xr CX EX C k X N sc fq) {n : Str} (h : gloB sc n = true) : Gl X n := by
  show X.env.scope.names.lookup n = some .globalImplicit
  rw [x.scope]
  unfold gloB at h
  split at h
  · assumption
  · cases h
theorem XOk.vis (x : XOk T xr CX EX C k X N sc fq) {n : Str} (h : visB sc n = true) : Vis X.env.scope n := by
  rw [x.scope]
  unfold visB at h
  split at h
  · exact .inl (by assumption)
  · exact .inr (.inl (by assumption))
  · exact .inr (.inr (by assumption))
  · cases h
theorem okName_of {n : Str} (h : okName n = true) : (n == ("__debug__" : Str)) = false ∧ (n == ("__classdict__" : Str)) = false ∧ n ≠ "__name__" := by
  unfold okName at h
  simp only [Bool.and_eq_true, Bool.not_eq_true', decide_eq_false_iff_not] at h
  exact ⟨h.1.1, h.1.2, h.2⟩
theorem nameIs_of {n : Str} (h : nameIs sc n e = true) : ∃ p, e = .Name n p ∧ gloB sc n = true := by
  unfold nameIs at h
  split at h
  · simp only [Bool.and_eq_true, decide_eq_true_eq] at h
    obtain ⟨rfl, h⟩ := h
    exact ⟨_, rfl, h⟩
  · cases h
theorem plainIx_of (h : noSlice e = true) : PlainIx e := fun o i => by
  cases e <;> first | rfl | (cases h)
theorem attr_plain {a : Str} {env : PySem.Env} (h : noCall0 e = true) : attributeBase e a env (eval e env) = eval e env := by
  unfold attributeBase
  split
  · cases h
  · rfl
theorem noMark {op : CmpOp} (h : noSet e = true) : behindInMarks op e = false := by
  cases e <;> first | rfl | (cases h)
theorem stars_none {pos : Pos} : ∀ {es : List Expr}, es.all noStar = true → (backTo pos (starEach es X.env)).any (·.1) = false
  | [], _ => rfl
  | e :: es, h => by
    rw [List.all_cons, Bool.and_eq_true] at h
    rw [star_cons h.1]
    show (false || (backTo pos (starEach es X.env)).any (·.1)) = false
    rw [stars_none h.2] <;> rfl
end
end MP
end MSnd

section MExp
set_option Elab.async false
set_option linter.all false
set_option maxRecDepth 100000
set_option autoImplicit false
set_option maxHeartbeats 2000000
/-! MExp: what MPy's evaluator says of an expression, the machine does. -/
namespace MP
open PySem PySem.Spec PyProof.Rows L2
variable [Cla]
variable {Fx : FX} {Ef : L2.St → FX} {Xp : Exc → Store → Prop}

section
variable {σ : L2.St} {H : Hp}
theorem At.rebase {α β : Type} {R : Hp → Wd → Hp → β → α → Prop} {W0 W : Wd} {H0 H : Hp} {m : M α} {st : Store} {Q : β → Hp → Prop} (hR : ∀ W' H' b a, R H W' H' b a → R H0 W' H' b a) (h : At Fx W0 H0 R m W H st Q) : At Fx W H R m W H st Q :=
  ⟨.refl, h.2.1, wp_mono2 h.2.2 (fun a s k W' H' b x g r => k W' H' b (h.1.trans x) g (hR _ _ _ _ r)) fun e s k W' H' x g => k W' H' (h.1.trans x) g⟩
theorem At.go {α β : Type} {R : Hp → Wd → Hp → β → α → Prop} {W0 W : Wd} {H0 H : Hp} {m : M α} {st : Store} {Q : β → Hp → Prop} {W' : Wd} {H' : Hp} (h : At Fx W0 H0 R m W H st Q) (x : Ext W0 H0 W' H') (g : Gd W' st H') : At Fx W0 H0 R m W' H' st Q := ⟨x, g, h.2.2⟩
theorem rG_congr {α β : Type} {R : Hp → Wd → Hp → β → α → Prop} {m m' : Env → M α} {Q : β → Hp → Prop} (i : ∀ Xp ρ st P, wp Xp (m ρ) st P → wp Xp (m' ρ) st P) (h : rG Ef R m σ H Q) : rG Ef R m' σ H Q := by
  obtain ⟨W, ρ, st, er, x, g, w⟩ := h
  exact ⟨W, ρ, st, er, x, g, i _ _ _ _ w⟩
/-- R may be begun earlier -/
def Early {α β : Type} (R : Hp → Wd → Hp → β → α → Prop) : Prop := ∀ (H0 H1 : Hp), (∀ p, H1 p = none → H0 p = none) → ∀ W' H' b a, R H1 W' H' b a → R H0 W' H' b a
theorem early_DR : Early DR := fun _ _ f _ _ _ _ r => r.base f
theorem early_eq {α : Type} : Early (REq (α := α)) := fun _ _ _ _ _ _ _ r => r
theorem rG_condV {α β : Type} {R : Hp → Wd → Hp → β → α → Prop} {m1 : Env → M D} {k : Bool → Env → M α} {Q : β → Hp → Prop} (hR : Early R) (h : rG Ef R (fun ρ => m1 ρ >>= fun x => asBool x >>= fun b => k b ρ) σ H Q) :
    rG Ef DR m1 σ H fun v H1 => ∃ c, v = .bl c ∧ rG Ef R (k c) σ H1 Q := by
  obtain ⟨W, ρ, st, er, h'⟩ := rG_then h
  refine ⟨W, ρ, st, er, h'.mono ?_⟩
  rintro v H1 ⟨W', ρ', d, W1, st1, er', x1, r1, h1⟩
  obtain ⟨i, e, h2⟩ := h1.asBool r1
  exact ⟨i, e, W1, ρ', st1, er'.mono x1, h2.rebase fun W' H' b a r => hR _ _ (fun p n => x1.fresh n) _ _ _ _ r⟩
theorem rG_cond {α β : Type} {R : Hp → Wd → Hp → β → α → Prop} {m1 : Env → M D} {k : Bool → Env → M α} {Q : β → Hp → Prop} (hR : Early R) (h : rG Ef R (fun ρ => m1 ρ >>= fun x => asBool x >>= fun b => k b ρ) σ H Q) :
    rG Ef REq (fun ρ => m1 ρ >>= asBool) σ H fun c H1 => rG Ef R (k c) σ H1 Q := by
  have h' : rG Ef R (fun ρ => (m1 ρ >>= asBool) >>= fun b => k b ρ) σ H Q := rG_congr (fun _ ρ st P w => by simp only [wp_bind] at w ⊢; exact w) h
  obtain ⟨W, ρ, st, er, h'⟩ := h'
  refine ⟨W, ρ, st, er, (At.bind (R1 := REq) h').mono ?_⟩
  rintro b H1 ⟨a, W1, st1, x1, r1, h1⟩
  subst r1
  exact ⟨W1, ρ, st1, er.mono x1, h1.rebase fun W' H' b a r => hR _ _ (fun p n => x1.fresh n) _ _ _ _ r⟩
theorem rG_pure {α : Type} {a : α} {β : Type} {R : Hp → Wd → Hp → β → α → Prop} {b : β} {Q : β → Hp → Prop} (h : rG Ef R (fun _ => pure a) σ H Q) (r : ∀ H0 W H, R H0 W H b a) : Q b H := by
  obtain ⟨W, ρ, st, er, h⟩ := h
  exact h.pure _ _ _ h.1 h.2.1 (r _ _ _)
theorem wp_and {C : Ctx} {a b : Ex} {ρ : Env} {st : Store} {P : Bool → Store → Prop} (w : wp Xp (evE C (.and a b) ρ >>= asBool) st P) :
    wp Xp (evE C a ρ >>= fun x => asBool x >>= fun k => (match k with
      | true => evE C b ρ >>= asBool
      | false => pure false)) st P := by
  simp only [evE, wp_bind] at w ⊢
  refine wp_mono w fun x s1 w1 => wp_mono w1 fun k s2 w2 => ?_
  cases k with
  | true => simp only [wp_bind] at w2 ⊢; exact w2
  | false => exact w2
theorem wp_or {C : Ctx} {a b : Ex} {ρ : Env} {st : Store} {P : Bool → Store → Prop} (w : wp Xp (evE C (.or a b) ρ >>= asBool) st P) :
    wp Xp (evE C a ρ >>= fun x => asBool x >>= fun k => (match k with
      | true => pure true
      | false => evE C b ρ >>= asBool)) st P := by
  simp only [evE, wp_bind] at w ⊢
  refine wp_mono w fun x s1 w1 => wp_mono w1 fun k s2 w2 => ?_
  cases k with
  | false => simp only [wp_bind] at w2 ⊢; exact w2
  | true => exact w2
theorem wp_not {C : Ctx} {a : Ex} {ρ : Env} {st : Store} {P : Bool → Store → Prop} (w : wp Xp (evE C (.not a) ρ >>= asBool) st P) :
    wp Xp (evE C a ρ >>= fun x => asBool x >>= fun k => pure (!k)) st P := by
  simp only [evE, wp_bind] at w ⊢
  exact wp_mono w fun x s1 w1 => wp_mono w1 fun k s2 w2 => w2
end
section
variable {T : Tab} {C : Ctx} {k : Nat} {X : Cx} {N : List Str} {sc : Scope} {fq : Str → Bool}
theorem PW.ofBool {X : Cx} {op : BoolOp} {es : List Expr} {p : Pos} {t : TT} (h : PT X (.BoolOp op es p) t) : PW X (.BoolOp op es p) t :=
  ⟨fun whole pins s σ H Q I w => by
    have e : isTrue (.BoolOp op es p) X.env whole = isTrue (.BoolOp op es p) X.env (eval (.BoolOp op es p) X.env) := by rfl
    rw [e]
    exact h.run pins s σ H Q I w⟩
theorem pt_plain {e : Expr} {t : TE} (h : PE X e t) (p : plainT e = true) : PT X e (tB t) := pt_val h fun whole => by
  cases e <;> first | rfl | skip
  all_goals first | (cases p; done) | skip
  rename_i op _ _
  cases op <;> first | rfl | (cases p; done)
/-- a plain expression as a test -/
theorem pt_of {e : Expr} {m : Env → M D} (h : PE X e (rG Ef DR m)) (p : plainT e = true) : PT X e (rG Ef REq (fun ρ => m ρ >>= asBool)) := PT.imp (pt_plain h p) fun σ H Q w => rG_test w
end
/-! ### single steps -/
section
variable {σ : L2.St} {H : Hp} {Q : V → Hp → Prop}
theorem rG_var {i : Nat} (h : rG Ef DR (fun ρ => ofO (match ρ[i]? with
    | some (some d) => some d
    | _ => none)) σ H Q) : tVar i σ H Q := by
  obtain ⟨W, ρ, st, er, h⟩ := h
  obtain ⟨d, e, h⟩ := h.ofO'
  have e' : ρ[i]? = some (some d) := by
    split at e
    · cases e; assumption
    · cases e
  obtain ⟨v, hv, r⟩ := er.2 i d e'
  exact ⟨v, hv, h.pure _ _ _ h.1 h.2.1 r.dr⟩
theorem rG_con {d : PyData} {v : V} (r : Dv (fun _ => False) (fun _ => none) v d) (h : rG Ef DR (fun _ => pure (.dat d)) σ H Q) : tC v σ H Q :=
  rG_pure h fun H0 W H => r.mono (fun _ z => z.elim) fun _ _ z => z.elim
theorem rG_neg {m : Env → M D} (h : rG Ef DR (fun ρ => m ρ >>= fun x => asInt x >>= fun i => pure (.dat (.int (-i)))) σ H Q) : tUn (rU fun i => .int (-i)) (rG Ef DR m) σ H Q := by
  obtain ⟨W, ρ, st, er, h'⟩ := rG_then h
  refine ⟨W, ρ, st, er, h'.mono ?_⟩
  rintro v H1 ⟨W', ρ', d, W1, st1, _, x1, r1, h1⟩
  obtain ⟨i, e, h2⟩ := h1.asInt r1
  exact ⟨i, e, h2.pure _ _ _ h2.1 h2.2.1 (.int _)⟩
theorem rG_chain {o1 o2 : Cop} {m1 m2 m3 : Env → M D} (h : rG Ef DR (fun ρ => do
      let x ← m1 ρ
      let y ← m2 ρ
      let u ← look x
      let v ← look y
      let r ← ofO (copV o1 u v)
      match r with
      | true => do
        let z ← m3 ρ
        let v' ← look y
        let w ← look z
        let r' ← ofO (copV o2 v' w)
        pure (.dat (.bool r'))
      | false => pure (.dat (.bool false))) σ H Q) :
    tChain (rV2 fun x y => bolO (copV o1 x y)) (rV2 fun x y => bolO (copV o2 x y)) (rG Ef DR m1) (rG Ef DR m2) (rG Ef DR m3) σ H Q := by
  obtain ⟨W, ρ, st, er, h'⟩ := rG_two h
  refine ⟨W, ρ, st, er, h'.mono fun v H1 ⟨W1, ρ1, st1, er1, h1⟩ => ⟨W1, ρ1, st1, er1, h1.mono ?_⟩⟩
  rintro y H2 ⟨Wb, ρ', d, e, W2, st2, er', x2, r1, r2, h2⟩
  obtain ⟨u, hu, h3⟩ := h2.look r1
  obtain ⟨v', hv, h4⟩ := h3.look r2
  obtain ⟨r, er1', h5⟩ := h4.ofO
  refine ⟨W2, H2, W2, st2, u, v', .dat (.bool r), ⟨.refl, h5.2.1⟩, hu, hv, by show bolO _ = _; rw [er1'] <;> rfl, ?_⟩
  intro W3 H3 z x3 g3 rz
  cases rz
  refine ⟨r, rfl, ?_⟩
  cases r with
  | false =>
    rw [if_neg (by decide)]
    exact h5.pure _ _ _ (h5.1.trans x3) g3 (.bl _)
  | true =>
    rw [if_pos rfl]
    have h6 := (h5.go (h5.1.trans x3) g3)
    refine ⟨W3, ρ', st2, (er'.mono x2).mono x3, (At.bind (R1 := DR) h6).mono ?_⟩
    rintro z H4 ⟨dz, W4, st4, x4, rz, h7⟩
    refine rV2.of_at (Fx := Ef σ) (W0 := Wb) (H0 := H) (st := st4) (d1 := e) (d2 := dz) (f := fun x y => bolO (copV o2 x y)) ?_ (r2.mono (x3.trans x4)) rz
    obtain ⟨a1, a2, a3⟩ := h7
    refine ⟨a1, a2, ?_⟩
    simp only [wp_bind] at a3 ⊢
    refine wp_mono a3 fun a s k => wp_mono k fun b s' k' => ?_
    obtain ⟨c, ec, k'⟩ := wp_ofO.mp k'
    refine wp_ofO.mpr ⟨.dat (.bool c), by rw [ec] <;> rfl, k'⟩
theorem rG_slc {m : Env → M D} {ml mh : Env → M (Option Int)} (h : rG Ef DR (fun ρ => do
      let x ← m ρ
      let l ← ml ρ
      let h ← mh ρ
      let u ← look x
      ofO (cutV u l h)) σ H Q) : tSl rVS (rG Ef DR m) (rG Ef REq ml) (rG Ef REq mh) σ H Q := by
  obtain ⟨W, ρ, st, er, h⟩ := h
  refine ⟨W, ρ, st, er, (At.bind (R1 := DR) h).mono ?_⟩
  rintro v H1 ⟨d, W1, st1, x1, r1, h1⟩
  refine ⟨W1, ρ, st1, er.mono x1, (At.bind (R1 := REq) h1).mono ?_⟩
  rintro l H2 ⟨l', W2, st2, x2, rfl, h2⟩
  refine ⟨W2, ρ, st2, (er.mono x1).mono x2, (At.bind (R1 := REq) h2).mono ?_⟩
  rintro u H3 ⟨u', W3, st3, x3, rfl, h3⟩
  obtain ⟨w, hw, h4⟩ := h3.look (r1.mono (x2.trans x3))
  obtain ⟨d', e', h5⟩ := h4.ofO'
  exact ⟨W, H, W3, st3, w, d', ⟨h5.1, h5.2.1⟩, hw, e', h5.pure⟩
theorem rG_part {m : Env → M D} {Q : Option Int → Hp → Prop} (h : rG Ef REq (fun ρ => do
    let x ← m ρ
    let i ← asInt x
    pure (some i)) σ H Q) : tPart (rG Ef DR m) σ H Q := by
  obtain ⟨W, ρ, st, er, h'⟩ := rG_then h
  refine ⟨W, ρ, st, er, h'.mono ?_⟩
  rintro v H1 ⟨W', ρ', d, W1, st1, _, x1, r1, h1⟩
  obtain ⟨i, e, h2⟩ := h1.asInt r1
  exact ⟨i, e, h2.pure _ _ _ h2.1 h2.2.1 rfl⟩
theorem rG_lrng {m : Env → M D} (h : rG Ef DR (fun ρ => do
    let x ← m ρ
    let i ← asInt x
    guardB (small i)
    pure (.newL (rngL 0 i.toNat))) σ H Q) : tLstRg (tRg1 (rG Ef DR m)) σ H Q := by
  obtain ⟨W, ρ, st, er, h'⟩ := rG_then h
  refine ⟨W, ρ, st, er, h'.mono ?_⟩
  rintro v H1 ⟨W', ρ', d, W1, st1, _, x1, r1, h1⟩
  obtain ⟨i, e, h2⟩ := h1.asInt r1
  obtain ⟨hs, h3⟩ := h2.guard
  have hs' : -1000000 ≤ i ∧ i ≤ 1000000 := by simpa [small] using hs
  refine ⟨i, e, ⟨by omega, by omega, by omega, by omega, by omega⟩, fun q hq => ?_⟩
  have key : ∀ (n : Nat) (lo : Int), DvAll W1.im H1 ((List.range n).map fun j => V.int (lo + (j : Nat))) (rngL lo n) := fun n => by
    induction n with
    | zero => intro lo; exact .nil
    | succ n ih =>
      intro lo
      rw [List.range_succ_eq_map, List.map_cons, List.map_map]
      have e0 : (fun j : Nat => V.int (lo + (j : Nat))) ∘ Nat.succ = fun j : Nat => V.int ((lo + 1) + (j : Nat)) := by
        funext j
        show V.int (lo + ((j + 1 : Nat) : Int)) = _
        congr 1
        omega
      rw [e0]
      have e1 : V.int (lo + ((0 : Nat) : Int)) = V.int lo := by congr 1; omega
      rw [e1]
      exact .cons (.int lo) (ih (lo + 1))
  have k := key i.toNat 0
  have e2 : ((List.range i.toNat).map fun j => V.int (0 + ((j : Nat) : Int))) = rgV 0 i := by unfold rgV; rw [Int.sub_zero]
  rw [e2] at k
  exact Fin.lst (W0 := W') (H0 := H) (st := st1) (W := W1) h3.pure ⟨h3.1, h3.2.1⟩ k hq
theorem rG_bi {b : Bi} {m : Env → M (List D)} (h : rG Ef DR (fun ρ => do
    let xs ← m ρ
    let us ← looks xs
    ofO (biV b us)) σ H Q) : tCB (rVn (biV b)) (rG Ef RAs m) σ H Q := by
  obtain ⟨W, ρ, st, er, h⟩ := h
  refine ⟨W, ρ, st, er, (At.bind (R1 := RAs) h).mono ?_⟩
  rintro vs H1 ⟨ds, W1, st1, x1, r1, h1⟩
  obtain ⟨us, hus, h2⟩ := h1.looks r1
  obtain ⟨d, e, h3⟩ := h2.ofO'
  exact ⟨W, H, W1, st1, us, d, ⟨h3.1, h3.2.1⟩, hus, e, h3.pure⟩
theorem rG_call {xr : XR} {EX : L2.St → XK} {C : Ctx} {f : Nat} {m : Env → M (List D)} (h : rG (efOf xr EX) DR (fun ρ => do
    let xs ← m ρ
    C.call f xs) σ H Q) : tCallS (spOf xr C f) EX (rG (efOf xr EX) RAs m) σ H Q := by
  obtain ⟨W, ρ, st, er, h⟩ := h
  refine ⟨W, ρ, st, er, (At.bind (R1 := RAs) h).mono ?_⟩
  rintro vs H1 ⟨ds, W1, st1, x1, r1, h1⟩
  obtain ⟨y, g, w⟩ := h1
  exact ⟨W1, st1, ds, g, r1, wp_mono2 w (fun d s k W' H' v x' g' r => k W' H' v (y.trans x') g' (r.base fun p n => x1.fresh n)) fun e s k W' H' x' g' => k W' H' (y.trans x') g'⟩
theorem rG_tup {m : Env → M (List PyData)} (h : rG Ef DR (fun ρ => do
    let xs ← m ρ
    guardB (decide (xs.length ≤ LIM))
    pure (.dat (.tuple xs))) σ H Q) : tTupS (rG Ef RLst m) σ H Q := by
  obtain ⟨W, ρ, st, er, h⟩ := h
  refine ⟨W, ρ, st, er, (At.bind (R1 := RLst) h).mono ?_⟩
  rintro vs H1 ⟨ds, W1, st1, x1, r1, h1⟩
  obtain ⟨hs, h3⟩ := h1.guard
  exact ⟨by rw [r1.length, sizeLine_eq]; exact of_decide_eq_true hs, Fin.tup (W0 := W) (H0 := H) (st := st1) (W := W1) h3.pure ⟨h3.1, h3.2.1⟩ r1⟩
theorem rG_lst {m : Env → M (List PyData)} (h : rG Ef DR (fun ρ => do
    let xs ← m ρ
    guardB (decide (xs.length ≤ LIM))
    pure (.newL xs)) σ H Q) : tLst (rG Ef RLst m) σ H Q := by
  obtain ⟨W, ρ, st, er, h⟩ := h
  refine ⟨W, ρ, st, er, (At.bind (R1 := RLst) h).mono ?_⟩
  rintro vs H1 ⟨ds, W1, st1, x1, r1, h1⟩
  obtain ⟨hs, h3⟩ := h1.guard
  exact ⟨by rw [r1.length, sizeLine_eq]; exact of_decide_eq_true hs, fun p hp => Fin.lst (W0 := W) (H0 := H) (st := st1) (W := W1) h3.pure ⟨h3.1, h3.2.1⟩ r1 hp⟩
theorem rG_empK (h : rG Ef DR (fun _ => pure (.newD false [])) σ H Q) : tDNewK σ H Q := fun p hp => by
  obtain ⟨W, ρ, st, er, h⟩ := h
  exact h.pure W _ _ (h.1.trans (Ext.lay hp)) (h.2.1.lay hp) ⟨p, rfl, Loose.lay h.2.1 hp, hp, [], upd_same, .nil⟩
theorem rG_empT (h : rG Ef DR (fun _ => pure (.newD true [])) σ H Q) : tXNew σ H Q := fun p hp => by
  obtain ⟨W, ρ, st, er, h⟩ := h
  exact h.pure W _ _ (h.1.trans (Ext.lay hp)) (h.2.1.lay hp) ⟨p, rfl, Loose.lay h.2.1 hp, hp, [], upd_same, .nil⟩
/-- a fresh object becomes a cell -/
theorem rG_cell {m : Env → M D} (h : rG Ef DR (fun ρ => m ρ >>= newCell) σ H Q) : rG Ef DR m σ H Q := by
  obtain ⟨W', ρ', st', er', h'⟩ := rG_then (m1 := m) (k := fun d _ => newCell d) h
  refine ⟨W', ρ', st', er', h'.mono ?_⟩
  rintro v H1 ⟨W, ρ, d, W1, st1, er, x1, r1, h1⟩
  obtain ⟨x, g, w⟩ := h1
  cases d with
  | newL xs =>
    obtain ⟨p, vs, rfl, hp, l, n, q⟩ := r1
    refine w (W1.addE p) H1 _ (x.cell n) (g.cell l ⟨l.2.1, vs, hp, q⟩) ⟨p, ?_, rfl⟩
    show (W1.eta ++ [p])[st1.length]? = some p
    rw [← g.len]; simp
  | tree ts => exact w.elim
  | newD t kvs =>
    obtain ⟨p, rfl, l, n, q⟩ := r1
    refine w (W1.addE p) H1 _ (x.cell n) (g.cell l ⟨l.2.1, q⟩) ⟨p, ?_, rfl⟩
    show (W1.eta ++ [p])[st1.length]? = some p
    rw [← g.len]; simp
  | dat d => exact w.elim
  | ref i => exact w.elim
/-- items of a display -/
theorem rG_cons {m : Env → M D} {ms : Env → M (List PyData)} {Q : List V → Hp → Prop} (h : rG Ef RLst (fun ρ => do
    let x ← m ρ
    let u ← settle x
    let us ← ms ρ
    pure (u :: us)) σ H Q) : tCons (rG Ef DR m) (rG Ef RLst ms) σ H Q := by
  obtain ⟨W, ρ, st, er, h⟩ := h
  refine ⟨W, ρ, st, er, (At.bind (R1 := DR) h).mono ?_⟩
  rintro v H1 ⟨d, W1, st1, x1, r1, h1⟩
  obtain ⟨u, W2, st2, du, e1, _, _, h2⟩ := h1.settle r1
  refine ⟨W2, ρ, st2, e1 _ _ (er.mono x1), (At.bind (R1 := RLst) h2).mono ?_⟩
  rintro vs H2 ⟨ds, W3, st3, x3, r3, h3⟩
  exact h3.pure _ _ _ h3.1 h3.2.1 (.cons (x3.dv du) r3)
/-- arguments -/
theorem rG_args {m : Env → M D} {ms : Env → M (List D)} {Q : List V → Hp → Prop} (h : rG Ef RAs (fun ρ => do
    let x ← m ρ
    let us ← ms ρ
    pure (keep x :: us)) σ H Q) : tCons (rG Ef DR m) (rG Ef RAs ms) σ H Q := by
  obtain ⟨W, ρ, st, er, h⟩ := h
  refine ⟨W, ρ, st, er, (At.bind (R1 := DR) h).mono ?_⟩
  rintro v H1 ⟨d, W1, st1, x1, r1, h1⟩
  obtain ⟨W2, x2, g2, k2, e2, f2⟩ := keep_own (W' := W) (H' := H) r1 h1.1 h1.2.1
  refine ⟨W2, ρ, st1, e2 _ _ (er.mono x1), (At.bind (R1 := RAs) (h1.move x2 g2)).mono ?_⟩
  rintro vs H2 ⟨ds, W3, st3, x3, r3, h3⟩
  exact h3.pure _ _ _ h3.1 h3.2.1 (.cons (k2.mono x3) r3)
end
end MP
end MExp

section MEnm
set_option Elab.async false
set_option linter.all false
set_option maxRecDepth 100000
set_option autoImplicit false
set_option maxHeartbeats 4000000
/-! MEnm: enumerate and zip of lists and of tuples; the pairs are tuples whose object is known. -/
namespace MP
open PySem PySem.Spec PyProof.Rows L2
open AutoSeq1 (wpAny_loadPart')
section
variable {prog : Program} {w : World} {A : Around}
/-- where the iterator of a tuple stands -/
def AtT (it a : Addr) (vs : Array Value) (i : Nat) (h : Heap) : Prop := h.IsTupleIter it a i ∧ h.IsTuple a vs
theorem AtT.ne {it a : Addr} {vs : Array Value} {i : Nat} {h : Heap} (x : AtT it a vs i h) : a ≠ it := by
  rintro rfl
  obtain ⟨⟨o, h1, h2, _⟩, p, h3, h4, _⟩ := x
  rw [h1] at h3
  cases h3
  rw [h2] at h4
  exact absurd (Value.type.inj h4) (by decide)
theorem draws_tup (it a : Addr) (vs : Array Value) (hh : A.handled = none) : Draws prog w A it [it, a] vs.size (fun i v => vs[i]? = some v) (AtT it a vs) := by
  constructor
  · rintro i h ⟨⟨o, h1, _⟩, _⟩
    exact ⟨o, h1⟩
  · rintro i h h' ⟨⟨o, h1, h2⟩, p, h3, h4⟩ k
    exact ⟨⟨o, k it (by simp) _ h1, h2⟩, p, k a (by simp) _ h3, h4⟩
  · intro i s Q E hi st hq
    refine RZ.nextOf_tuple_item st.1 st.2 (Array.getElem?_eq_getElem hi) fun h' k1 k2 => ?_
    refine hq _ h' s.toks (Array.getElem?_eq_getElem hi) ⟨k1, ?_⟩ k2
    obtain ⟨p, h3, h4⟩ := st.2
    exact ⟨p, (k2.2 a st.ne).trans h3, h4⟩
  · intro s Q E st hq
    exact RZ.nextOf_tuple_end hh st.1 st.2 (by simp) hq
theorem newEnumT (t : Addr) (vs : Array Value) (n : Nat) (dc : Option Addr) (ss : Array (Option Value)) :
    Meets (Builtin.«enumerate.__new__» ⟨[.type "enumerate", .ref t], []⟩) (fun _ R s => s.heap.get? t = some ⟨.type "tuple", dc, .seq vs n, ss⟩ ∧
      R (.ok (.ret (.ref (s.heap.push ⟨.type "tuple_iterator", none, .fields #[.ref t, .int 0 0], #[]⟩).objs.size)))
        { s with heap := (s.heap.push ⟨.type "tuple_iterator", none, .fields #[.ref t, .int 0 0], #[]⟩).push ⟨.type "enumerate", none, .fields #[.none, .bool false, .ref s.heap.objs.size, rawInt 0, .none, .none], #[]⟩ }) := by
  refine .of_wp fun prog w A R s h => ?_
  obtain ⟨hp, g, d, tk, os⟩ := s
  obtain ⟨hl, h⟩ := h
  have hsub := sub_enumerate
  have hT : Heap.IsTuple (Shared.heap ⟨hp, g, d, tk, os⟩) t vs := ⟨_, hl, rfl, n, rfl⟩
  wp_walk using wpAny_loadPart' hl
  refine wpAny_stack_any fun st => wpAny_pure ?_
  split
  · rename_i c _ _ _ _ _
    cases (c == Value.type "enumerate") <;> (wp_walk using wpAny_loadPart' hl, wpAny_pyIter_tuple hT; exact ⟨_, rfl, h⟩)
  · wp_walk using wpAny_loadPart' hl, wpAny_pyIter_tuple hT
    exact ⟨_, rfl, h⟩
end
section
variable {prog : Program} {w : World} {A : Around} {E : Value → Shared → Prop} {s : Shared}
theorem callEnumT {t : Addr} {vs : Array Value} {Q : Value → Shared → Prop} (hT : s.heap.IsTuple t vs)
    (h : ∀ g, IsEnum g (s.heap.objs.size + 1) s.heap.objs.size 0 .none → AtT s.heap.objs.size t vs 0 g → (∀ b o, s.heap.get? b = some o → g.get? b = some o) → Q (.ref (s.heap.objs.size + 1)) { s with heap := g }) :
    wpAny (model prog w) A (call (.type "enumerate") [.ref t]) Q E s := by
  obtain ⟨⟨c, dc, dt, ss⟩, hl, hc, n, hd⟩ := hT
  simp only at hc hd
  subst hc hd
  refine callType_new F.called_enumerate (by decide) (F.typeCall_enumerate_1 _) (F.newCall_enumerate_1 _) (fun o => F.args_object_init_2 o _) F.entry_enumerate_new (newEnumT t vs n dc ss) ⟨hl, ?_⟩
  have z1 := Heap.size_push s.heap ⟨.type "tuple_iterator", none, .fields #[.ref t, .int 0 0], #[]⟩
  have e1 := Heap.get?_push_size s.heap (o := ⟨.type "tuple_iterator", none, .fields #[.ref t, .int 0 0], #[]⟩) rfl
  have k1 : ∀ b o, s.heap.get? b = some o → (s.heap.push ⟨.type "tuple_iterator", none, .fields #[.ref t, .int 0 0], #[]⟩).get? b = some o := fun b o q => Heap.get?_push_of_some _ q
  generalize s.heap.push ⟨.type "tuple_iterator", none, .fields #[.ref t, .int 0 0], #[]⟩ = g1 at z1 e1 k1 ⊢
  have e2 := Heap.get?_push_size g1 (o := ⟨.type "enumerate", none, .fields #[.none, .bool false, .ref s.heap.objs.size, rawInt 0, .none, .none], #[]⟩) rfl
  have k2 : ∀ b o, g1.get? b = some o → (g1.push ⟨.type "enumerate", none, .fields #[.none, .bool false, .ref s.heap.objs.size, rawInt 0, .none, .none], #[]⟩).get? b = some o := fun b o q => Heap.get?_push_of_some _ q
  generalize g1.push ⟨.type "enumerate", none, .fields #[.none, .bool false, .ref s.heap.objs.size, rawInt 0, .none, .none], #[]⟩ = g2 at e2 k2 ⊢
  rw [z1] at e2
  show _ ∧ _
  rw [z1]
  exact ⟨⟨_, e2, rfl⟩, h _ e2 ⟨⟨_, k2 _ _ e1, rfl, rfl⟩, _, k2 _ _ (k1 _ _ hl), rfl, n, rfl⟩ fun b o q => k2 _ _ (k1 _ _ q)⟩
end
/-! ### over the layer: lists (false) and tuples (true) -/
def sqB (K : PySem.W.Frag) (H : Hp) (a : Addr) (vs : List V) : Bool → Prop
  | true => SqT K H a vs
  | false => SqL K H a vs
def seB (h : Heap) (a : Addr) (us : Array Value) : Bool → Prop
  | true => h.IsTuple a us
  | false => h.IsList a us
def itB (h : Heap) (i a : Addr) (n : Nat) : Bool → Prop
  | true => h.IsTupleIter i a n
  | false => h.IsListIter i a n
section
variable {tp : Bool}
theorem itB.obj {h : Heap} {i a : Addr} {n : Nat} (x : itB h i a n tp) : ∃ o, h.get? i = some o ∧ ∀ v, o.data ≠ .cell v := by
  cases tp with
  | true => obtain ⟨o, e, _, d⟩ := x; exact ⟨o, e, fun v q => by rw [d] at q; cases q⟩
  | false => obtain ⟨o, e, _, d⟩ := x; exact ⟨o, e, fun v q => by rw [d] at q; cases q⟩
theorem itB.keep {h h' : Heap} {i a : Addr} {n : Nat} (x : itB h i a n tp) (k : ∀ o, h.get? i = some o → h'.get? i = some o) : itB h' i a n tp := by
  cases tp with
  | true => obtain ⟨o, e, r⟩ := x; exact ⟨o, k o e, r⟩
  | false => obtain ⟨o, e, r⟩ := x; exact ⟨o, k o e, r⟩
theorem sqB.at {X : Cx} {pins : List (Addr × Obj)} {σ : L2.St} {H : Hp} {s : Shared} {a : Addr} {vs : List V} (I : Inv X pins σ H s) (h : sqB X.K H a vs tp) : ∃ us : List Value, Vals vs us ∧ seB s.heap a us.toArray tp := by
  cases tp with
  | true =>
    obtain ⟨us, r, p, _⟩ := I.tuple h
    exact ⟨us, r, p⟩
  | false =>
    obtain ⟨us, r, p, _⟩ := I.list h
    exact ⟨us, r, p.isList⟩
theorem sqB.inj {X : Cx} {pins : List (Addr × Obj)} {σ : L2.St} {H : Hp} {s : Shared} {a : Addr} {vs ws : List V} (I : Inv X pins σ H s) (h : sqB X.K H a vs tp) (h' : sqB X.K H a ws tp) : vs = ws := by
  cases tp with
  | true => exact I.tuple_inj h h'
  | false => exact I.list_inj h h'
/-- what an iterator of pairs yields -/
def PairY (H : Hp) (v : V) (H' : Hp) (x y : V) : Prop := ∃ (T : Addr) (ob : Obj), v = .ref T ∧ H T = none ∧ ob.dict = none ∧ H' = upd H T (.frz ob (.tup [x, y]))
/-- a pair laid in a turn -/
theorem lay_pair {X : Cx} {pins : List (Addr × Obj)} {σ : L2.St} {H : Hp} {s : Shared} (I : Inv X pins σ H s) {g : Heap} {t : Nat} {ch : List Addr} {x y : V} {u z : Value} (rx : RelV x u) (ry : RelV y z) (at_ : g.get? s.heap.objs.size = some { cls := .type "tuple", data := .seq #[u, z] })
    (keep : ∀ b o, b ∉ ch → s.heap.get? b = some o → g.get? b = some o) (hf : ∀ b ∈ ch, FpOk X pins H b) :
    ∃ H', Inv X pins σ H' { s with heap := g, toks := t } ∧ PairY H (.ref s.heap.objs.size) H' x y ∧ ∀ b, b < s.heap.objs.size → H' b = H b := by
  have free := I.hok.fresh (Nat.le_refl s.heap.objs.size)
  have new : ObjOk X.prog X.w (upd H s.heap.objs.size (.frz { cls := .type "tuple", data := .seq #[u, z] } (.tup [x, y]))) g s.heap.objs.size (.frz { cls := .type "tuple", data := .seq #[u, z] } (.tup [x, y])) :=
    ⟨at_, show 2 ≤ sizeLine by decide, [u, z], .cons rx (.cons ry .nil), _, at_, rfl, _, rfl⟩
  exact ⟨_, I.turnedNew (t' := t) (ch := ch) keep hf (Nat.le_refl _) new, ⟨_, _, rfl, free, rfl, rfl⟩, fun b hb => upd_ne (Nat.ne_of_lt hb)⟩

/-! ### enumerate -/
theorem enum_step {prog : Program} {w : World} {A : Around} {E : Value → Shared → Prop} {s : Shared} {en it a : Addr} {i : Nat} {us : Array Value} {old u : Value} {Q : Option Value → Shared → Prop} (hh : A.in1.handled = none)
    (he : IsEnum s.heap en it ((i : Nat) : Int) old) (hi : itB s.heap it a i tp) (hs : seB s.heap a us tp) (hu : us[i]? = some u) (ne : en ≠ it)
    (h : ∀ g tk, IsEnumOut g en it ((i : Int) + 1) u s.heap.objs.size → itB g it a (i + 1) tp → g.get? s.heap.objs.size = some { cls := .type "tuple", data := .seq #[.int i tk, u] } →
      (∀ b o, b ≠ en → b ≠ it → s.heap.get? b = some o → g.get? b = some o) → Q (some (.ref s.heap.objs.size)) { s with heap := g, toks := tk + 1 }) : wpAny (model prog w) A (pyNext (.ref en)) Q E s := by
  cases tp with
  | false => exact wpAny_pyNext_enum_item he hi hs hu ne fun g ho hi' hT _ hk => h g s.toks ho hi' hT hk
  | true =>
    have hea : en ≠ a := by
      rintro rfl
      obtain ⟨p, h3, h4, _⟩ := (show s.heap.IsTuple en us from hs)
      rw [he] at h3
      cases h3
      exact absurd (Value.type.inj h4) (by decide)
    have D := draws_tup (prog := prog) (w := w) (A := A.in1) it a us hh
    have hlt : i < us.size := (Array.getElem?_eq_some_iff.mp hu).1
    refine wpAny_pyNext_enum_itemD D he ⟨hi, hs⟩ hlt ne (by simp [ne, hea]) fun u' g tk hu' ho st hn _ hk => ?_
    rw [hu] at hu'
    cases hu'
    refine h g tk ho st.1 hn fun b o hb1 hb2 q => ?_
    by_cases hba : b = a
    · subst hba
      have z1 := hk
      first
        | exact hk b o (by simp [hb1, hb2]) q
        | exact hk b o hb1 (by simp [hb2]) q
        | exact hk b o hb1 hb2 q
    · first
        | exact hk b o (by simp [hb1, hb2, hba]) q
        | exact hk b o hb1 (by simp [hb2, hba]) q
        | exact hk b o hb1 hb2 q
theorem enum_stop {prog : Program} {w : World} {A : Around} {E : Value → Shared → Prop} {s : Shared} {en it a : Addr} {i : Nat} {us : Array Value} {old : Value} {Q : Option Value → Shared → Prop} (hh : A.handled = none) (hh1 : A.in1.handled = none)
    (he : IsEnum s.heap en it ((i : Nat) : Int) old) (hi : itB s.heap it a i tp) (hs : seB s.heap a us tp) (hu : us.size ≤ i) (h : ∀ g, Heap.ExtBut it s.heap g → Q none { s with heap := g }) : wpAny (model prog w) A (pyNext (.ref en)) Q E s := by
  cases tp with
  | false => exact wpAny_pyNext_enum_end hh he hi hs (Array.getElem?_eq_none hu) h
  | true =>
    have D := draws_tup (prog := prog) (w := w) (A := A.in1) it a us hh1
    have D' : Draws prog w A.in1 it [it, a] 0 (fun _ _ => True) (fun _ => AtT it a us i) :=
      ⟨fun _ h st => D.live i h st, fun _ h h' st k => D.frame i h h' st k, fun j s Q E hj st hq => absurd hj (Nat.not_lt_zero _), fun s Q E st hq => RZ.nextOf_tuple_end hh1 st.1 st.2 (Array.getElem?_eq_none hu) hq⟩
    exact wpAny_pyNext_enum_endD D' he ⟨hi, hs⟩ h
/-- each item of a list or a tuple with its number -/
def IteS (K : PySem.W.Frag) (tp : Bool) (a : Addr) : L2.It where
  go i H := ∃ (vs : List V) (x : V), sqB K H a vs tp ∧ vs[i]? = some x
  yld i H v H' := ∃ x, PairY H v H' (.int (i : Nat)) x ∧ ∀ vs, sqB K H a vs tp → vs[i]? = some x
  stop i H := ∃ vs : List V, sqB K H a vs tp ∧ vs.length ≤ i
theorem turnEnumS {P : Program} {w : World} {K : PySem.W.Frag} {elts : List Expr} {kk : Nat} {tpos : Pos} (a en ti : Addr) :
    Turn P w K (.Tuple elts kk tpos) (IteS K tp a) [en, ti] en (fun i h => (∃ old, IsEnum h en ti ((i : Nat) : Int) old) ∧ itB h ti a i tp ∧ en ≠ ti) where
  mem := List.mem_cons_self
  obj := by
    rintro i h ⟨⟨old, he⟩, hi, _⟩ b hb
    rcases List.mem_cons.mp hb with rfl | hb
    · exact ⟨_, he, fun v q => nomatch q⟩
    · rw [List.mem_singleton.mp hb]
      exact hi.obj
  keep := by
    rintro i h h' ⟨⟨old, he⟩, hi, hne⟩ k
    exact ⟨⟨old, k en (by simp) _ he⟩, hi.keep fun o q => k ti (by simp) o q, hne⟩
  item := by
    intro X hP hw hK hc i pins s σ H E I hf st hg
    subst hP hw hK
    obtain ⟨⟨old, he⟩, hit, hne⟩ := st
    obtain ⟨vs, x, hq, hx⟩ := hg
    obtain ⟨us, rv, hs⟩ := hq.at I
    obtain ⟨u, hu, ru⟩ := rv.get hx
    have l1 : en < s.heap.objs.size := Heap.lt_size he
    have l2 : ti < s.heap.objs.size := by obtain ⟨_, q, _⟩ := hit.obj; exact Heap.lt_size q
    refine enum_step (u := u) (show X.A.in1.handled = none from I.ok.hd hc) he hit hs (by simpa using hu) hne fun g tk ho hi' hn hk => ?_
    refine ⟨_, rfl, wpAny_letOwnedTupleGo_enum (s := { s with heap := g, toks := tk + 1 }) ho fun g2 he' sb => ?_⟩
    obtain ⟨H', I1, hy, hold⟩ := lay_pair (x := .int (i : Nat)) (u := .int i tk) (t := tk + 1) (ch := [en, ti]) I ⟨tk, rfl⟩ ru ((sb.2 _ (Nat.ne_of_gt l1)).trans hn) (fun b o hb q => (sb.2 b (fun z => hb (by simp [z]))).trans (hk b o (fun z => hb (by simp [z])) (fun z => hb (by simp [z])) q)) hf
    refine ⟨.ref s.heap.objs.size, H', I1, rfl, ⟨x, hy, fun ws hw => by rw [hw.inj I hq]; exact hx⟩, ⟨⟨u, ?_⟩, hi'.keep fun o q => (sb.2 ti (Ne.symm hne)).trans q, hne⟩, fun b hb => ?_⟩
    · rw [show ((i + 1 : Nat) : Int) = (i : Int) + 1 by omega]
      exact he'
    · have : b < s.heap.objs.size := by
        rcases List.mem_cons.mp hb with rfl | hb
        · exact l1
        · rw [List.mem_singleton.mp hb]; exact l2
      rw [hold b this]
      exact (hf b hb).1
  done := by
    intro X hP hw hK hc i pins s σ H E I hf st hg
    subst hP hw hK
    obtain ⟨⟨old, he⟩, hit, hne⟩ := st
    obtain ⟨vs, hq, hx⟩ := hg
    obtain ⟨us, rv, hs⟩ := hq.at I
    obtain ⟨f0, f1, f2, f3, f4, f5⟩ := hf ti (by simp)
    have hl := rv.length
    exact enum_stop (I.ok.hd hc) (show X.A.in1.handled = none from I.ok.hd hc) he hit hs (by simp; omega) fun g eb => ⟨rfl, I.turned (t' := s.toks) (fun b o hb q => eb b o hb q) f0 f1 f3 f4 f5⟩
  self := by
    rintro A i s Q E ⟨⟨_, he⟩, _⟩ h
    exact wpAny_pyIter_enum he h
def iEnumA (K : PySem.W.Frag) (ta : TA) : TI := fun σ H R => ta σ H fun vs H1 => ∃ tp a ws, vs = [.ref a] ∧ sqB K H1 a ws tp ∧ R (IteS K tp a) H1
theorem pi_enumA {X : Cx} {e : Expr} {ta : TA} {p pos tpos : Pos} {elts : List Expr} {kk : Nat} (hg : Gl X "enumerate") (hm : X.mg "enumerate" = none) (ha : PA X [e] ta) (hs : starEach [e] X.env = [(false, eval e X.env)] := by rfl) :
    PI X (.Tuple elts kk tpos) (.Call (.Name "enumerate" p) [e] [] pos) (iEnumA X.K ta) := by
  constructor
  intro pins s σ H R I h
  refine Call_ (ld_blt I hg hm boot_enumerate (PyProof.Rows.callWith_type1 (thn (ha.run pos pins s σ H _ I h) ?_) hs rfl))
  rintro us s1 ⟨vs, H1, I1, r1, tp, a, ws, rfl, hq, hr⟩
  cases r1 with
  | cons r rr =>
    cases rr
    cases r
    have key : ∀ (g : Heap), IsEnum g (s1.heap.objs.size + 1) s1.heap.objs.size 0 .none → itB g s1.heap.objs.size a 0 tp → (∀ b o, s1.heap.get? b = some o → g.get? b = some o) →
        wpAny (model X.prog X.w) X.A (pyIter (.ref (s1.heap.objs.size + 1))) (PIE X pins σ (.Tuple elts kk tpos) R) X.xe { s1 with heap := g } := by
      intro g he hi hk
      refine wpAny_pyIter_enum he ⟨_, _, _, _, H1, rfl, I1.kept (t' := s1.toks) hk, turnEnumS a _ _, ⟨⟨.none, he⟩, hi, Nat.succ_ne_self _⟩, fun b hb => ?_, hr⟩
      have hle : s1.heap.objs.size ≤ b := by
        rcases List.mem_cons.mp hb with rfl | hb
        · exact Nat.le_succ _
        · rw [List.mem_singleton.mp hb]
          exact Nat.le_refl _
      exact I1.fpOk hle (I1.hok.fresh hle)
    obtain ⟨us, rv, hs⟩ := hq.at I1
    cases tp with
    | false => exact call_enumerate_list hs fun g he hi _ hk => key g he hi hk
    | true => exact callEnumT hs fun g he hi hk => key g he hi.1 hk

/-! ### zip -/
/-- where an iterator of pairs stands -/
structure AtZ (tp : Bool) (z TI TO i1 i2 a b : Addr) (i : Nat) (h : Heap) : Prop where
  zip : IsZip h z TI TO .none
  ins : IsPair h TI (.ref i1) (.ref i2)
  out : ∃ x y, IsPair h TO x y
  one : itB h i1 a i tp
  two : itB h i2 b i tp
theorem AtZ.all {z TI TO i1 i2 a b : Addr} {i : Nat} {h : Heap} (x : AtZ tp z TI TO i1 i2 a b i h) : ∀ c ∈ [z, TI, TO, i1, i2], ∃ o, h.get? c = some o ∧ ∀ v, o.data ≠ .cell v := by
  obtain ⟨u, v, e⟩ := x.out
  simp only [List.mem_cons, List.not_mem_nil, or_false, forall_eq_or_imp, forall_eq]
  exact ⟨⟨_, x.zip, fun v q => nomatch q⟩, ⟨_, x.ins, fun v q => nomatch q⟩, ⟨_, e, fun v q => nomatch q⟩, x.one.obj, x.two.obj⟩
end
end MP
end MEnm

section MZip
set_option Elab.async false
set_option linter.all false
set_option maxRecDepth 100000
set_option autoImplicit false
set_option maxHeartbeats 4000000
/-! MZip: zip of two or three, each of them a list or a tuple (printed by mkzip.py). -/
namespace MP
open PySem PySem.Spec PyProof.Rows L2
open PySem.Sem (wp)
section
variable {prog : Program} {w : World} {A : Around} {E : Value → Shared → Prop} {s : Shared} {tp : Bool}
theorem seB.keep {h h' : Heap} {a : Addr} {us : Array Value} (x : seB h a us tp) (k : ∀ o, h.get? a = some o → h'.get? a = some o) : seB h' a us tp := by
  cases tp with
  | true => obtain ⟨o, e, r⟩ := x; exact ⟨o, k o e, r⟩
  | false => obtain ⟨o, e, r⟩ := x; exact ⟨o, k o e, r⟩
theorem seB.lt {h : Heap} {a : Addr} {us : Array Value} (x : seB h a us tp) : a < h.objs.size := by
  cases tp <;> (obtain ⟨o, q, _⟩ := x; exact Heap.lt_size q)
theorem itB.lt {h : Heap} {i a : Addr} {n : Nat} (x : itB h i a n tp) : i < h.objs.size := by
  cases tp <;> (obtain ⟨o, q, _⟩ := x; exact Heap.lt_size q)
theorem nx_item {it l : Addr} {i : Nat} {us : Array Value} {x : Value} {Q : Value → Shared → Prop} (hit : itB s.heap it l i tp) (hl : seB s.heap l us tp) (hx : us[i]? = some x)
    (hQ : ∀ h', itB h' it l (i + 1) tp → Heap.SameBut it s.heap h' → Q x { s with heap := h' }) : wpAny (model prog w) A (Builtin.SmallTypes.nextOf (.ref it)) Q E s := by
  cases tp with
  | true => exact RZ.nextOf_tuple_item hit hl hx hQ
  | false => exact wpAny_nextOf_list_item hit hl hx hQ
theorem nx_end {it l : Addr} {i : Nat} {us : Array Value} {Q : Value → Shared → Prop} (hh : A.handled = none) (hit : itB s.heap it l i tp) (hl : seB s.heap l us tp) (hx : us[i]? = none)
    (hE : ∀ h' e, Heap.ExtBut it s.heap h' → (∃ o, h'.get? e = some o ∧ o.cls = .type "StopIteration") → E (.ref e) { s with heap := h' }) : wpAny (model prog w) A (Builtin.SmallTypes.nextOf (.ref it)) Q E s := by
  cases tp with
  | true => exact RZ.nextOf_tuple_end hh hit hl hx hE
  | false => exact wpAny_nextOf_list_end hh hit hl hx hE
end
abbrev IsRow2 (h : Heap) (T : Addr) (x1 x2 : Value) : Prop := h.get? T = some { cls := .type "tuple", data := .seq #[x1, x2] }
structure Apart2 (z TI TO i1 i2 l1 l2 : Addr) : Prop where
  TI_z : TI ≠ z
  TO_z : TO ≠ z
  i1_z : i1 ≠ z
  i2_z : i2 ≠ z
  TI_TO : TI ≠ TO
  TI_i1 : TI ≠ i1
  TI_i2 : TI ≠ i2
  TO_i1 : TO ≠ i1
  TO_i2 : TO ≠ i2
  i1_i2 : i1 ≠ i2
  l1_z : l1 ≠ z
  l2_z : l2 ≠ z
  l1_TO : l1 ≠ TO
  l2_TO : l2 ≠ TO
  l1_i1 : l1 ≠ i1
  l1_i2 : l1 ≠ i2
  l2_i1 : l2 ≠ i1
  l2_i2 : l2 ≠ i2
section
variable {prog : Program} {w : World} {A : Around} {E : Value → Shared → Prop} {s : Shared} {t1 t2 : Bool}
theorem upd_row2 {T : Addr} {x1 x2 x : Value} {k : Nat} {Q : Unit → Shared → Prop} (hT : IsRow2 s.heap T x1 x2)
    (h : ∀ h', h'.get? T = some { cls := .type "tuple", data := .seq ((#[x1, x2] : Array Value).setIfInBounds k x) } → Heap.SameBut T s.heap h' → Q () { s with heap := h' }) :
    wpAny (model prog w) A (updateSeq T (·.setIfInBounds k x)) Q E s := by
  refine wpAny_updateSeq hT rfl (h _ ?_ (Heap.SameBut.update ..))
  rw [Heap.get?_update_self _ hT rfl]
  simp [Obj.mapSeq]
theorem zip2_next_item {z TI TO i1 i2 l1 l2 : Addr} {k1 k2 : Nat} {u1 u2 : Array Value} {x1 x2 o1 o2 : Value} {Q : Value → Shared → Prop} (D : Apart2 z TI TO i1 i2 l1 l2)
    (hz : IsZip s.heap z TI TO .none) (hTI : IsRow2 s.heap TI (.ref i1) (.ref i2)) (hTO : IsRow2 s.heap TO o1 o2)
    (h1 : itB s.heap i1 l1 k1 t1) (h2 : itB s.heap i2 l2 k2 t2) (s1 : seB s.heap l1 u1 t1) (s2 : seB s.heap l2 u2 t2) (e1 : u1[k1]? = some x1) (e2 : u2[k2]? = some x2)
    (hQ : ∀ h', IsZip h' z TI TO (rawInt s.heap.objs.size) → IsRow2 h' TO x1 x2 → itB h' i1 l1 (k1 + 1) t1 → itB h' i2 l2 (k2 + 1) t2 → IsRow2 h' s.heap.objs.size x1 x2 →
      (∀ c o, c ≠ z → c ≠ TO → c ≠ i1 → c ≠ i2 → s.heap.get? c = some o → h'.get? c = some o) → Q (.ref s.heap.objs.size) { s with heap := h' }) :
    wpAny (model prog w) A (Builtin.«zip.__next__» ⟨[.ref z], []⟩) (fun fin s' => ∃ v, fin = .done (.ret v) ∧ Q v s') E s := by
  show wpAny _ _ (field (.ref z) 2 >>= _) _ _ _
  refine wpAny_bind (wpAny_field hz rfl (x := .bool false) rfl ?_)
  show wpAny _ _ (field (.ref z) 3 >>= _) _ _ _
  refine wpAny_bind (wpAny_field hz rfl (x := .ref TI) rfl ?_)
  refine wpAny_bind (wpAny_seqItems hTI rfl ?_)
  show wpAny _ _ (Builtin.SmallTypes.ownedTupleIsFree (.ref z) >>= _) _ _ _
  refine wpAny_bind ?_
  unfold Builtin.SmallTypes.ownedTupleIsFree
  refine wpAny_bind (wpAny_field hz rfl (x := .none) rfl (wpAny_pure ?_))
  simp only [if_true]
  refine wpAny_bind (wpAny_rule ?_)
  refine wpAny_bind (wpAny_field hz rfl (x := .ref TO) rfl ?_)
  refine wpAny_bind (wpAny_setField_rec hz (by simp) fun g0 z0 sb0 => ?_)
  replace z0 : IsZip g0 z TI TO .ellipsis := z0
  refine wpAny_bind ?_
  simp only [List.zipIdx_cons, List.zipIdx_nil, List.forIn_cons, List.forIn_nil]
  have f_0_TO := sb0.extBut _ _ D.TO_z hTO
  have f_0_i1 := (h1).keep fun o e => sb0.extBut _ o D.i1_z e
  have f_0_i2 := (h2).keep fun o e => sb0.extBut _ o D.i2_z e
  have f_0_l1 := (s1).keep fun o e => sb0.extBut _ o D.l1_z e
  have f_0_l2 := (s2).keep fun o e => sb0.extBut _ o D.l2_z e
  refine wpAny_bind (wpAny_bind (wpAny_onRaise ?_))
  show wpAny _ _ (Builtin.SmallTypes.nextOf (.ref i1) >>= _) _ _ _
  refine wpAny_bind (nx_item f_0_i1 f_0_l1 e1 fun ga0 it0 sba0 => wpAny_pure ?_)
  have f_a0_TO := sba0.extBut _ _ D.TO_i1 f_0_TO
  have f_a0_i2 := (f_0_i2).keep fun o e => sba0.extBut _ o D.i1_i2.symm e
  have f_a0_l1 := (f_0_l1).keep fun o e => sba0.extBut _ o D.l1_i1 e
  have f_a0_l2 := (f_0_l2).keep fun o e => sba0.extBut _ o D.l2_i1 e
  have f_a0_z := sba0.extBut _ _ D.i1_z.symm z0
  refine wpAny_bind (wpAny_seqItems f_a0_TO rfl ?_)
  refine wpAny_bind (upd_row2 f_a0_TO fun gb0 to0 sbb0 => ?_)
  replace to0 : IsRow2 gb0 TO x1 o2 := to0
  have f_b0_i1 := (it0).keep fun o e => sbb0.extBut _ o D.TO_i1.symm e
  have f_b0_i2 := (f_a0_i2).keep fun o e => sbb0.extBut _ o D.TO_i2.symm e
  have f_b0_l1 := (f_a0_l1).keep fun o e => sbb0.extBut _ o D.l1_TO e
  have f_b0_l2 := (f_a0_l2).keep fun o e => sbb0.extBut _ o D.l2_TO e
  have f_b0_z := sbb0.extBut _ _ D.TO_z.symm f_a0_z
  refine wpAny_bind (wpAny_letGo (wpAny_pure ?_))
  refine wpAny_bind (wpAny_bind (wpAny_onRaise ?_))
  show wpAny _ _ (Builtin.SmallTypes.nextOf (.ref i2) >>= _) _ _ _
  refine wpAny_bind (nx_item f_b0_i2 f_b0_l2 e2 fun ga1 it1 sba1 => wpAny_pure ?_)
  have f_a1_TO := sba1.extBut _ _ D.TO_i2 to0
  have f_a1_i1 := (f_b0_i1).keep fun o e => sba1.extBut _ o D.i1_i2 e
  have f_a1_l1 := (f_b0_l1).keep fun o e => sba1.extBut _ o D.l1_i2 e
  have f_a1_l2 := (f_b0_l2).keep fun o e => sba1.extBut _ o D.l2_i2 e
  have f_a1_z := sba1.extBut _ _ D.i2_z.symm f_b0_z
  refine wpAny_bind (wpAny_seqItems f_a1_TO rfl ?_)
  refine wpAny_bind (upd_row2 f_a1_TO fun gb1 to1 sbb1 => ?_)
  replace to1 : IsRow2 gb1 TO x1 x2 := to1
  have f_b1_i1 := (f_a1_i1).keep fun o e => sbb1.extBut _ o D.TO_i1.symm e
  have f_b1_i2 := (it1).keep fun o e => sbb1.extBut _ o D.TO_i2.symm e
  have f_b1_l1 := (f_a1_l1).keep fun o e => sbb1.extBut _ o D.l1_TO e
  have f_b1_l2 := (f_a1_l2).keep fun o e => sbb1.extBut _ o D.l2_TO e
  have f_b1_z := sbb1.extBut _ _ D.TO_z.symm f_a1_z
  refine wpAny_bind (wpAny_letGo (wpAny_pure (wpAny_pure ?_)))
  refine wpAny_bind (wpAny_seqItems to1 rfl ?_)
  refine wpAny_bind (wpAny_newTuple ?_)
  have hsz : gb1.objs.size = s.heap.objs.size := by rw [sbb1.1, sba1.1, sbb0.1, sba0.1, sb0.1]
  have hzlt : z < gb1.objs.size := Heap.lt_size f_b1_z
  show wpAny _ _ (Builtin.SmallTypes.ownedTupleHandOut (.ref z) (.ref gb1.objs.size) >>= _) _ _ _
  refine wpAny_bind ?_
  unfold Builtin.SmallTypes.ownedTupleHandOut
  have zp : IsZip (gb1.push { cls := .type "tuple", data := .seq #[x1, x2] }) z TI TO .ellipsis := Heap.get?_push_of_some _ f_b1_z
  refine wpAny_bind (wpAny_setField_rec zp (by simp) fun g7 z7 sb7 => ?_)
  replace z7 : IsZip g7 z TI TO (rawInt gb1.objs.size) := z7
  refine wpAny_setField_rec z7 (by simp) fun g8 z8 sb8 => ?_
  replace z8 : IsZip g8 z TI TO (rawInt gb1.objs.size) := z8
  have up : ∀ c o, c ≠ z → gb1.get? c = some o → g8.get? c = some o := fun c o c1 e => sb8.extBut _ _ c1 (sb7.extBut _ _ c1 (Heap.get?_push_of_some _ e))
  have hT : IsRow2 g8 gb1.objs.size x1 x2 := sb8.extBut _ _ (Nat.ne_of_gt hzlt) (sb7.extBut _ _ (Nat.ne_of_gt hzlt) (Heap.get?_push_size _ rfl))
  rw [hsz] at z8 hT
  refine wpAny_pure ⟨_, rfl, ?_⟩
  show Q (.ref gb1.objs.size) _
  rw [hsz]
  exact hQ g8 z8 (up _ _ D.TO_z to1) ((f_b1_i1).keep fun o e => up _ o D.i1_z e) ((f_b1_i2).keep fun o e => up _ o D.i2_z e) hT fun c o n_z n_TO n_i1 n_i2 x => up c o n_z (sbb1.extBut _ _ n_TO (sba1.extBut _ _ n_i2 (sbb0.extBut _ _ n_TO (sba0.extBut _ _ n_i1 (sb0.extBut _ _ n_z (x))))))
theorem zip2_next_end {z TI TO i1 i2 l1 l2 : Addr} {k1 k2 : Nat} {u1 u2 : Array Value} {o1 o2 : Value} {Q : PySem.Fin → Shared → Prop} (hh : A.handled = none) (D : Apart2 z TI TO i1 i2 l1 l2)
    (hz : IsZip s.heap z TI TO .none) (hTI : IsRow2 s.heap TI (.ref i1) (.ref i2)) (hTO : IsRow2 s.heap TO o1 o2)
    (h1 : itB s.heap i1 l1 k1 t1) (h2 : itB s.heap i2 l2 k2 t2) (s1 : seB s.heap l1 u1 t1) (s2 : seB s.heap l2 u2 t2) (hend : u1[k1]? = none ∨ u2[k2]? = none)
    (hE : ∀ h' e, (∀ c o, c ≠ z → c ≠ TO → c ≠ i1 → c ≠ i2 → s.heap.get? c = some o → h'.get? c = some o) → (∃ o, h'.get? e = some o ∧ o.cls = .type "StopIteration") → E (.ref e) { s with heap := h' }) :
    wpAny (model prog w) A (Builtin.«zip.__next__» ⟨[.ref z], []⟩) Q E s := by
  cases e1 : u1[k1]? with
  | none =>
    show wpAny _ _ (field (.ref z) 2 >>= _) _ _ _
    refine wpAny_bind (wpAny_field hz rfl (x := .bool false) rfl ?_)
    show wpAny _ _ (field (.ref z) 3 >>= _) _ _ _
    refine wpAny_bind (wpAny_field hz rfl (x := .ref TI) rfl ?_)
    refine wpAny_bind (wpAny_seqItems hTI rfl ?_)
    show wpAny _ _ (Builtin.SmallTypes.ownedTupleIsFree (.ref z) >>= _) _ _ _
    refine wpAny_bind ?_
    unfold Builtin.SmallTypes.ownedTupleIsFree
    refine wpAny_bind (wpAny_field hz rfl (x := .none) rfl (wpAny_pure ?_))
    simp only [if_true]
    refine wpAny_bind (wpAny_rule ?_)
    refine wpAny_bind (wpAny_field hz rfl (x := .ref TO) rfl ?_)
    refine wpAny_bind (wpAny_setField_rec hz (by simp) fun g0 z0 sb0 => ?_)
    replace z0 : IsZip g0 z TI TO .ellipsis := z0
    refine wpAny_bind ?_
    simp only [List.zipIdx_cons, List.zipIdx_nil, List.forIn_cons, List.forIn_nil]
    have f_0_TO := sb0.extBut _ _ D.TO_z hTO
    have f_0_i1 := (h1).keep fun o e => sb0.extBut _ o D.i1_z e
    have f_0_i2 := (h2).keep fun o e => sb0.extBut _ o D.i2_z e
    have f_0_l1 := (s1).keep fun o e => sb0.extBut _ o D.l1_z e
    have f_0_l2 := (s2).keep fun o e => sb0.extBut _ o D.l2_z e
    refine wpAny_bind (wpAny_bind (wpAny_onRaise ?_))
    show wpAny _ _ (Builtin.SmallTypes.nextOf (.ref i1) >>= _) _ _ _
    refine wpAny_bind (nx_end hh f_0_i1 f_0_l1 e1 fun ge e sbe he => ?_)
    obtain ⟨oe, hoe, hce⟩ := he
    have ze : IsZip ge z TI TO .ellipsis := sbe _ _ D.i1_z.symm z0
    have hez : e ≠ z := fun x => by subst x; rw [ze] at hoe; cases hoe; simp at hce
    exact wpAny_setField_rec ze (by simp) fun gf _ sbf => hE gf e (fun c o n_z n_TO n_i1 n_i2 x => sbf.extBut _ _ n_z (sbe _ _ n_i1 (sb0.extBut _ _ n_z (x)))) ⟨oe, sbf.extBut _ _ hez hoe, hce⟩
  | some x1 =>
    have e2 : u2[k2]? = none := by
      simp only [e1, reduceCtorEq, false_or] at hend
      exact hend
    show wpAny _ _ (field (.ref z) 2 >>= _) _ _ _
    refine wpAny_bind (wpAny_field hz rfl (x := .bool false) rfl ?_)
    show wpAny _ _ (field (.ref z) 3 >>= _) _ _ _
    refine wpAny_bind (wpAny_field hz rfl (x := .ref TI) rfl ?_)
    refine wpAny_bind (wpAny_seqItems hTI rfl ?_)
    show wpAny _ _ (Builtin.SmallTypes.ownedTupleIsFree (.ref z) >>= _) _ _ _
    refine wpAny_bind ?_
    unfold Builtin.SmallTypes.ownedTupleIsFree
    refine wpAny_bind (wpAny_field hz rfl (x := .none) rfl (wpAny_pure ?_))
    simp only [if_true]
    refine wpAny_bind (wpAny_rule ?_)
    refine wpAny_bind (wpAny_field hz rfl (x := .ref TO) rfl ?_)
    refine wpAny_bind (wpAny_setField_rec hz (by simp) fun g0 z0 sb0 => ?_)
    replace z0 : IsZip g0 z TI TO .ellipsis := z0
    refine wpAny_bind ?_
    simp only [List.zipIdx_cons, List.zipIdx_nil, List.forIn_cons, List.forIn_nil]
    have f_0_TO := sb0.extBut _ _ D.TO_z hTO
    have f_0_i1 := (h1).keep fun o e => sb0.extBut _ o D.i1_z e
    have f_0_i2 := (h2).keep fun o e => sb0.extBut _ o D.i2_z e
    have f_0_l1 := (s1).keep fun o e => sb0.extBut _ o D.l1_z e
    have f_0_l2 := (s2).keep fun o e => sb0.extBut _ o D.l2_z e
    refine wpAny_bind (wpAny_bind (wpAny_onRaise ?_))
    show wpAny _ _ (Builtin.SmallTypes.nextOf (.ref i1) >>= _) _ _ _
    refine wpAny_bind (nx_item f_0_i1 f_0_l1 e1 fun ga0 it0 sba0 => wpAny_pure ?_)
    have f_a0_TO := sba0.extBut _ _ D.TO_i1 f_0_TO
    have f_a0_i2 := (f_0_i2).keep fun o e => sba0.extBut _ o D.i1_i2.symm e
    have f_a0_l1 := (f_0_l1).keep fun o e => sba0.extBut _ o D.l1_i1 e
    have f_a0_l2 := (f_0_l2).keep fun o e => sba0.extBut _ o D.l2_i1 e
    have f_a0_z := sba0.extBut _ _ D.i1_z.symm z0
    refine wpAny_bind (wpAny_seqItems f_a0_TO rfl ?_)
    refine wpAny_bind (upd_row2 f_a0_TO fun gb0 to0 sbb0 => ?_)
    replace to0 : IsRow2 gb0 TO x1 o2 := to0
    have f_b0_i1 := (it0).keep fun o e => sbb0.extBut _ o D.TO_i1.symm e
    have f_b0_i2 := (f_a0_i2).keep fun o e => sbb0.extBut _ o D.TO_i2.symm e
    have f_b0_l1 := (f_a0_l1).keep fun o e => sbb0.extBut _ o D.l1_TO e
    have f_b0_l2 := (f_a0_l2).keep fun o e => sbb0.extBut _ o D.l2_TO e
    have f_b0_z := sbb0.extBut _ _ D.TO_z.symm f_a0_z
    refine wpAny_bind (wpAny_letGo (wpAny_pure ?_))
    refine wpAny_bind (wpAny_bind (wpAny_onRaise ?_))
    show wpAny _ _ (Builtin.SmallTypes.nextOf (.ref i2) >>= _) _ _ _
    refine wpAny_bind (nx_end hh f_b0_i2 f_b0_l2 e2 fun ge e sbe he => ?_)
    obtain ⟨oe, hoe, hce⟩ := he
    have ze : IsZip ge z TI TO .ellipsis := sbe _ _ D.i2_z.symm f_b0_z
    have hez : e ≠ z := fun x => by subst x; rw [ze] at hoe; cases hoe; simp at hce
    exact wpAny_setField_rec ze (by simp) fun gf _ sbf => hE gf e (fun c o n_z n_TO n_i1 n_i2 x => sbf.extBut _ _ n_z (sbe _ _ n_i2 (sbb0.extBut _ _ n_TO (sba0.extBut _ _ n_i1 (sb0.extBut _ _ n_z (x)))))) ⟨oe, sbf.extBut _ _ hez hoe, hce⟩
theorem zip2_item {z TI TO i1 i2 l1 l2 : Addr} {k1 k2 : Nat} {u1 u2 : Array Value} {x1 x2 o1 o2 : Value} {Q : Option Value → Shared → Prop} (D : Apart2 z TI TO i1 i2 l1 l2)
    (hz : IsZip s.heap z TI TO .none) (hTI : IsRow2 s.heap TI (.ref i1) (.ref i2)) (hTO : IsRow2 s.heap TO o1 o2)
    (h1 : itB s.heap i1 l1 k1 t1) (h2 : itB s.heap i2 l2 k2 t2) (s1 : seB s.heap l1 u1 t1) (s2 : seB s.heap l2 u2 t2) (e1 : u1[k1]? = some x1) (e2 : u2[k2]? = some x2)
    (hQ : ∀ h', IsZip h' z TI TO (rawInt s.heap.objs.size) → IsRow2 h' TO x1 x2 → itB h' i1 l1 (k1 + 1) t1 → itB h' i2 l2 (k2 + 1) t2 → IsRow2 h' s.heap.objs.size x1 x2 →
      (∀ c o, c ≠ z → c ≠ TO → c ≠ i1 → c ≠ i2 → s.heap.get? c = some o → h'.get? c = some o) → Q (some (.ref s.heap.objs.size)) { s with heap := h' }) : wpAny (model prog w) A (pyNext (.ref z)) Q E s := by
  have hT : s.TypeIs (.ref z) "zip" := ⟨_, hz, rfl⟩
  unfold pyNext
  exact wpAny_bind (wpAny_attempt (wpAny_callSpecial?_slot (name := Str.ofString "__next__") hT F.slot_zip_next
    (wpAny_call_entry F.slot_zip_next hT F.entry_zip_next
      (zip2_next_item D hz hTI hTO h1 h2 s1 s2 e1 e2 fun h' a0 a1 a2 a3 a4 a5 => wpAny_pure (hQ h' a0 a1 a2 a3 a4 a5)) (F.args_zip_next_1 _))))
theorem zip2_end {z TI TO i1 i2 l1 l2 : Addr} {k1 k2 : Nat} {u1 u2 : Array Value} {o1 o2 : Value} {Q : Option Value → Shared → Prop} (hh : A.handled = none) (D : Apart2 z TI TO i1 i2 l1 l2)
    (hz : IsZip s.heap z TI TO .none) (hTI : IsRow2 s.heap TI (.ref i1) (.ref i2)) (hTO : IsRow2 s.heap TO o1 o2)
    (h1 : itB s.heap i1 l1 k1 t1) (h2 : itB s.heap i2 l2 k2 t2) (s1 : seB s.heap l1 u1 t1) (s2 : seB s.heap l2 u2 t2) (hend : u1[k1]? = none ∨ u2[k2]? = none)
    (hQ : ∀ h', (∀ c o, c ≠ z → c ≠ TO → c ≠ i1 → c ≠ i2 → s.heap.get? c = some o → h'.get? c = some o) → Q none { s with heap := h' }) : wpAny (model prog w) A (pyNext (.ref z)) Q E s := by
  have hT : s.TypeIs (.ref z) "zip" := ⟨_, hz, rfl⟩
  unfold pyNext
  refine wpAny_bind (wpAny_attempt (wpAny_callSpecial?_slot (name := Str.ofString "__next__") hT F.slot_zip_next
    (wpAny_call_entry F.slot_zip_next hT F.entry_zip_next (zip2_next_end hh D hz hTI hTO h1 h2 s1 s2 hend fun h' e hk he => ?_) (F.args_zip_next_1 _))))
  obtain ⟨o, ho, hc⟩ := he
  refine wpAny_bind (wpAny_isInstance (T := "StopIteration") (b := true) ⟨o, ho, hc⟩ isSubtype_stop ?_)
  exact wpAny_pure (hQ _ hk)
end
abbrev IsRow3 (h : Heap) (T : Addr) (x1 x2 x3 : Value) : Prop := h.get? T = some { cls := .type "tuple", data := .seq #[x1, x2, x3] }
structure Apart3 (z TI TO i1 i2 i3 l1 l2 l3 : Addr) : Prop where
  TI_z : TI ≠ z
  TO_z : TO ≠ z
  i1_z : i1 ≠ z
  i2_z : i2 ≠ z
  i3_z : i3 ≠ z
  TI_TO : TI ≠ TO
  TI_i1 : TI ≠ i1
  TI_i2 : TI ≠ i2
  TI_i3 : TI ≠ i3
  TO_i1 : TO ≠ i1
  TO_i2 : TO ≠ i2
  TO_i3 : TO ≠ i3
  i1_i2 : i1 ≠ i2
  i1_i3 : i1 ≠ i3
  i2_i3 : i2 ≠ i3
  l1_z : l1 ≠ z
  l2_z : l2 ≠ z
  l3_z : l3 ≠ z
  l1_TO : l1 ≠ TO
  l2_TO : l2 ≠ TO
  l3_TO : l3 ≠ TO
  l1_i1 : l1 ≠ i1
  l1_i2 : l1 ≠ i2
  l1_i3 : l1 ≠ i3
  l2_i1 : l2 ≠ i1
  l2_i2 : l2 ≠ i2
  l2_i3 : l2 ≠ i3
  l3_i1 : l3 ≠ i1
  l3_i2 : l3 ≠ i2
  l3_i3 : l3 ≠ i3
section
variable {prog : Program} {w : World} {A : Around} {E : Value → Shared → Prop} {s : Shared} {t1 t2 t3 : Bool}
theorem upd_row3 {T : Addr} {x1 x2 x3 x : Value} {k : Nat} {Q : Unit → Shared → Prop} (hT : IsRow3 s.heap T x1 x2 x3)
    (h : ∀ h', h'.get? T = some { cls := .type "tuple", data := .seq ((#[x1, x2, x3] : Array Value).setIfInBounds k x) } → Heap.SameBut T s.heap h' → Q () { s with heap := h' }) :
    wpAny (model prog w) A (updateSeq T (·.setIfInBounds k x)) Q E s := by
  refine wpAny_updateSeq hT rfl (h _ ?_ (Heap.SameBut.update ..))
  rw [Heap.get?_update_self _ hT rfl]
  simp [Obj.mapSeq]
theorem zip3_next_item {z TI TO i1 i2 i3 l1 l2 l3 : Addr} {k1 k2 k3 : Nat} {u1 u2 u3 : Array Value} {x1 x2 x3 o1 o2 o3 : Value} {Q : Value → Shared → Prop} (D : Apart3 z TI TO i1 i2 i3 l1 l2 l3)
    (hz : IsZip s.heap z TI TO .none) (hTI : IsRow3 s.heap TI (.ref i1) (.ref i2) (.ref i3)) (hTO : IsRow3 s.heap TO o1 o2 o3)
    (h1 : itB s.heap i1 l1 k1 t1) (h2 : itB s.heap i2 l2 k2 t2) (h3 : itB s.heap i3 l3 k3 t3) (s1 : seB s.heap l1 u1 t1) (s2 : seB s.heap l2 u2 t2) (s3 : seB s.heap l3 u3 t3) (e1 : u1[k1]? = some x1) (e2 : u2[k2]? = some x2) (e3 : u3[k3]? = some x3)
    (hQ : ∀ h', IsZip h' z TI TO (rawInt s.heap.objs.size) → IsRow3 h' TO x1 x2 x3 → itB h' i1 l1 (k1 + 1) t1 → itB h' i2 l2 (k2 + 1) t2 → itB h' i3 l3 (k3 + 1) t3 → IsRow3 h' s.heap.objs.size x1 x2 x3 →
      (∀ c o, c ≠ z → c ≠ TO → c ≠ i1 → c ≠ i2 → c ≠ i3 → s.heap.get? c = some o → h'.get? c = some o) → Q (.ref s.heap.objs.size) { s with heap := h' }) :
    wpAny (model prog w) A (Builtin.«zip.__next__» ⟨[.ref z], []⟩) (fun fin s' => ∃ v, fin = .done (.ret v) ∧ Q v s') E s := by
  show wpAny _ _ (field (.ref z) 2 >>= _) _ _ _
  refine wpAny_bind (wpAny_field hz rfl (x := .bool false) rfl ?_)
  show wpAny _ _ (field (.ref z) 3 >>= _) _ _ _
  refine wpAny_bind (wpAny_field hz rfl (x := .ref TI) rfl ?_)
  refine wpAny_bind (wpAny_seqItems hTI rfl ?_)
  show wpAny _ _ (Builtin.SmallTypes.ownedTupleIsFree (.ref z) >>= _) _ _ _
  refine wpAny_bind ?_
  unfold Builtin.SmallTypes.ownedTupleIsFree
  refine wpAny_bind (wpAny_field hz rfl (x := .none) rfl (wpAny_pure ?_))
  simp only [if_true]
  refine wpAny_bind (wpAny_rule ?_)
  refine wpAny_bind (wpAny_field hz rfl (x := .ref TO) rfl ?_)
  refine wpAny_bind (wpAny_setField_rec hz (by simp) fun g0 z0 sb0 => ?_)
  replace z0 : IsZip g0 z TI TO .ellipsis := z0
  refine wpAny_bind ?_
  simp only [List.zipIdx_cons, List.zipIdx_nil, List.forIn_cons, List.forIn_nil]
  have f_0_TO := sb0.extBut _ _ D.TO_z hTO
  have f_0_i1 := (h1).keep fun o e => sb0.extBut _ o D.i1_z e
  have f_0_i2 := (h2).keep fun o e => sb0.extBut _ o D.i2_z e
  have f_0_i3 := (h3).keep fun o e => sb0.extBut _ o D.i3_z e
  have f_0_l1 := (s1).keep fun o e => sb0.extBut _ o D.l1_z e
  have f_0_l2 := (s2).keep fun o e => sb0.extBut _ o D.l2_z e
  have f_0_l3 := (s3).keep fun o e => sb0.extBut _ o D.l3_z e
  refine wpAny_bind (wpAny_bind (wpAny_onRaise ?_))
  show wpAny _ _ (Builtin.SmallTypes.nextOf (.ref i1) >>= _) _ _ _
  refine wpAny_bind (nx_item f_0_i1 f_0_l1 e1 fun ga0 it0 sba0 => wpAny_pure ?_)
  have f_a0_TO := sba0.extBut _ _ D.TO_i1 f_0_TO
  have f_a0_i2 := (f_0_i2).keep fun o e => sba0.extBut _ o D.i1_i2.symm e
  have f_a0_i3 := (f_0_i3).keep fun o e => sba0.extBut _ o D.i1_i3.symm e
  have f_a0_l1 := (f_0_l1).keep fun o e => sba0.extBut _ o D.l1_i1 e
  have f_a0_l2 := (f_0_l2).keep fun o e => sba0.extBut _ o D.l2_i1 e
  have f_a0_l3 := (f_0_l3).keep fun o e => sba0.extBut _ o D.l3_i1 e
  have f_a0_z := sba0.extBut _ _ D.i1_z.symm z0
  refine wpAny_bind (wpAny_seqItems f_a0_TO rfl ?_)
  refine wpAny_bind (upd_row3 f_a0_TO fun gb0 to0 sbb0 => ?_)
  replace to0 : IsRow3 gb0 TO x1 o2 o3 := to0
  have f_b0_i1 := (it0).keep fun o e => sbb0.extBut _ o D.TO_i1.symm e
  have f_b0_i2 := (f_a0_i2).keep fun o e => sbb0.extBut _ o D.TO_i2.symm e
  have f_b0_i3 := (f_a0_i3).keep fun o e => sbb0.extBut _ o D.TO_i3.symm e
  have f_b0_l1 := (f_a0_l1).keep fun o e => sbb0.extBut _ o D.l1_TO e
  have f_b0_l2 := (f_a0_l2).keep fun o e => sbb0.extBut _ o D.l2_TO e
  have f_b0_l3 := (f_a0_l3).keep fun o e => sbb0.extBut _ o D.l3_TO e
  have f_b0_z := sbb0.extBut _ _ D.TO_z.symm f_a0_z
  refine wpAny_bind (wpAny_letGo (wpAny_pure ?_))
  refine wpAny_bind (wpAny_bind (wpAny_onRaise ?_))
  show wpAny _ _ (Builtin.SmallTypes.nextOf (.ref i2) >>= _) _ _ _
  refine wpAny_bind (nx_item f_b0_i2 f_b0_l2 e2 fun ga1 it1 sba1 => wpAny_pure ?_)
  have f_a1_TO := sba1.extBut _ _ D.TO_i2 to0
  have f_a1_i1 := (f_b0_i1).keep fun o e => sba1.extBut _ o D.i1_i2 e
  have f_a1_i3 := (f_b0_i3).keep fun o e => sba1.extBut _ o D.i2_i3.symm e
  have f_a1_l1 := (f_b0_l1).keep fun o e => sba1.extBut _ o D.l1_i2 e
  have f_a1_l2 := (f_b0_l2).keep fun o e => sba1.extBut _ o D.l2_i2 e
  have f_a1_l3 := (f_b0_l3).keep fun o e => sba1.extBut _ o D.l3_i2 e
  have f_a1_z := sba1.extBut _ _ D.i2_z.symm f_b0_z
  refine wpAny_bind (wpAny_seqItems f_a1_TO rfl ?_)
  refine wpAny_bind (upd_row3 f_a1_TO fun gb1 to1 sbb1 => ?_)
  replace to1 : IsRow3 gb1 TO x1 x2 o3 := to1
  have f_b1_i1 := (f_a1_i1).keep fun o e => sbb1.extBut _ o D.TO_i1.symm e
  have f_b1_i2 := (it1).keep fun o e => sbb1.extBut _ o D.TO_i2.symm e
  have f_b1_i3 := (f_a1_i3).keep fun o e => sbb1.extBut _ o D.TO_i3.symm e
  have f_b1_l1 := (f_a1_l1).keep fun o e => sbb1.extBut _ o D.l1_TO e
  have f_b1_l2 := (f_a1_l2).keep fun o e => sbb1.extBut _ o D.l2_TO e
  have f_b1_l3 := (f_a1_l3).keep fun o e => sbb1.extBut _ o D.l3_TO e
  have f_b1_z := sbb1.extBut _ _ D.TO_z.symm f_a1_z
  refine wpAny_bind (wpAny_letGo (wpAny_pure ?_))
  refine wpAny_bind (wpAny_bind (wpAny_onRaise ?_))
  show wpAny _ _ (Builtin.SmallTypes.nextOf (.ref i3) >>= _) _ _ _
  refine wpAny_bind (nx_item f_b1_i3 f_b1_l3 e3 fun ga2 it2 sba2 => wpAny_pure ?_)
  have f_a2_TO := sba2.extBut _ _ D.TO_i3 to1
  have f_a2_i1 := (f_b1_i1).keep fun o e => sba2.extBut _ o D.i1_i3 e
  have f_a2_i2 := (f_b1_i2).keep fun o e => sba2.extBut _ o D.i2_i3 e
  have f_a2_l1 := (f_b1_l1).keep fun o e => sba2.extBut _ o D.l1_i3 e
  have f_a2_l2 := (f_b1_l2).keep fun o e => sba2.extBut _ o D.l2_i3 e
  have f_a2_l3 := (f_b1_l3).keep fun o e => sba2.extBut _ o D.l3_i3 e
  have f_a2_z := sba2.extBut _ _ D.i3_z.symm f_b1_z
  refine wpAny_bind (wpAny_seqItems f_a2_TO rfl ?_)
  refine wpAny_bind (upd_row3 f_a2_TO fun gb2 to2 sbb2 => ?_)
  replace to2 : IsRow3 gb2 TO x1 x2 x3 := to2
  have f_b2_i1 := (f_a2_i1).keep fun o e => sbb2.extBut _ o D.TO_i1.symm e
  have f_b2_i2 := (f_a2_i2).keep fun o e => sbb2.extBut _ o D.TO_i2.symm e
  have f_b2_i3 := (it2).keep fun o e => sbb2.extBut _ o D.TO_i3.symm e
  have f_b2_l1 := (f_a2_l1).keep fun o e => sbb2.extBut _ o D.l1_TO e
  have f_b2_l2 := (f_a2_l2).keep fun o e => sbb2.extBut _ o D.l2_TO e
  have f_b2_l3 := (f_a2_l3).keep fun o e => sbb2.extBut _ o D.l3_TO e
  have f_b2_z := sbb2.extBut _ _ D.TO_z.symm f_a2_z
  refine wpAny_bind (wpAny_letGo (wpAny_pure (wpAny_pure ?_)))
  refine wpAny_bind (wpAny_seqItems to2 rfl ?_)
  refine wpAny_bind (wpAny_newTuple ?_)
  have hsz : gb2.objs.size = s.heap.objs.size := by rw [sbb2.1, sba2.1, sbb1.1, sba1.1, sbb0.1, sba0.1, sb0.1]
  have hzlt : z < gb2.objs.size := Heap.lt_size f_b2_z
  show wpAny _ _ (Builtin.SmallTypes.ownedTupleHandOut (.ref z) (.ref gb2.objs.size) >>= _) _ _ _
  refine wpAny_bind ?_
  unfold Builtin.SmallTypes.ownedTupleHandOut
  have zp : IsZip (gb2.push { cls := .type "tuple", data := .seq #[x1, x2, x3] }) z TI TO .ellipsis := Heap.get?_push_of_some _ f_b2_z
  refine wpAny_bind (wpAny_setField_rec zp (by simp) fun g7 z7 sb7 => ?_)
  replace z7 : IsZip g7 z TI TO (rawInt gb2.objs.size) := z7
  refine wpAny_setField_rec z7 (by simp) fun g8 z8 sb8 => ?_
  replace z8 : IsZip g8 z TI TO (rawInt gb2.objs.size) := z8
  have up : ∀ c o, c ≠ z → gb2.get? c = some o → g8.get? c = some o := fun c o c1 e => sb8.extBut _ _ c1 (sb7.extBut _ _ c1 (Heap.get?_push_of_some _ e))
  have hT : IsRow3 g8 gb2.objs.size x1 x2 x3 := sb8.extBut _ _ (Nat.ne_of_gt hzlt) (sb7.extBut _ _ (Nat.ne_of_gt hzlt) (Heap.get?_push_size _ rfl))
  rw [hsz] at z8 hT
  refine wpAny_pure ⟨_, rfl, ?_⟩
  show Q (.ref gb2.objs.size) _
  rw [hsz]
  exact hQ g8 z8 (up _ _ D.TO_z to2) ((f_b2_i1).keep fun o e => up _ o D.i1_z e) ((f_b2_i2).keep fun o e => up _ o D.i2_z e) ((f_b2_i3).keep fun o e => up _ o D.i3_z e) hT fun c o n_z n_TO n_i1 n_i2 n_i3 x => up c o n_z (sbb2.extBut _ _ n_TO (sba2.extBut _ _ n_i3 (sbb1.extBut _ _ n_TO (sba1.extBut _ _ n_i2 (sbb0.extBut _ _ n_TO (sba0.extBut _ _ n_i1 (sb0.extBut _ _ n_z (x))))))))
theorem zip3_next_end {z TI TO i1 i2 i3 l1 l2 l3 : Addr} {k1 k2 k3 : Nat} {u1 u2 u3 : Array Value} {o1 o2 o3 : Value} {Q : PySem.Fin → Shared → Prop} (hh : A.handled = none) (D : Apart3 z TI TO i1 i2 i3 l1 l2 l3)
    (hz : IsZip s.heap z TI TO .none) (hTI : IsRow3 s.heap TI (.ref i1) (.ref i2) (.ref i3)) (hTO : IsRow3 s.heap TO o1 o2 o3)
    (h1 : itB s.heap i1 l1 k1 t1) (h2 : itB s.heap i2 l2 k2 t2) (h3 : itB s.heap i3 l3 k3 t3) (s1 : seB s.heap l1 u1 t1) (s2 : seB s.heap l2 u2 t2) (s3 : seB s.heap l3 u3 t3) (hend : u1[k1]? = none ∨ u2[k2]? = none ∨ u3[k3]? = none)
    (hE : ∀ h' e, (∀ c o, c ≠ z → c ≠ TO → c ≠ i1 → c ≠ i2 → c ≠ i3 → s.heap.get? c = some o → h'.get? c = some o) → (∃ o, h'.get? e = some o ∧ o.cls = .type "StopIteration") → E (.ref e) { s with heap := h' }) :
    wpAny (model prog w) A (Builtin.«zip.__next__» ⟨[.ref z], []⟩) Q E s := by
  cases e1 : u1[k1]? with
  | none =>
    show wpAny _ _ (field (.ref z) 2 >>= _) _ _ _
    refine wpAny_bind (wpAny_field hz rfl (x := .bool false) rfl ?_)
    show wpAny _ _ (field (.ref z) 3 >>= _) _ _ _
    refine wpAny_bind (wpAny_field hz rfl (x := .ref TI) rfl ?_)
    refine wpAny_bind (wpAny_seqItems hTI rfl ?_)
    show wpAny _ _ (Builtin.SmallTypes.ownedTupleIsFree (.ref z) >>= _) _ _ _
    refine wpAny_bind ?_
    unfold Builtin.SmallTypes.ownedTupleIsFree
    refine wpAny_bind (wpAny_field hz rfl (x := .none) rfl (wpAny_pure ?_))
    simp only [if_true]
    refine wpAny_bind (wpAny_rule ?_)
    refine wpAny_bind (wpAny_field hz rfl (x := .ref TO) rfl ?_)
    refine wpAny_bind (wpAny_setField_rec hz (by simp) fun g0 z0 sb0 => ?_)
    replace z0 : IsZip g0 z TI TO .ellipsis := z0
    refine wpAny_bind ?_
    simp only [List.zipIdx_cons, List.zipIdx_nil, List.forIn_cons, List.forIn_nil]
    have f_0_TO := sb0.extBut _ _ D.TO_z hTO
    have f_0_i1 := (h1).keep fun o e => sb0.extBut _ o D.i1_z e
    have f_0_i2 := (h2).keep fun o e => sb0.extBut _ o D.i2_z e
    have f_0_i3 := (h3).keep fun o e => sb0.extBut _ o D.i3_z e
    have f_0_l1 := (s1).keep fun o e => sb0.extBut _ o D.l1_z e
    have f_0_l2 := (s2).keep fun o e => sb0.extBut _ o D.l2_z e
    have f_0_l3 := (s3).keep fun o e => sb0.extBut _ o D.l3_z e
    refine wpAny_bind (wpAny_bind (wpAny_onRaise ?_))
    show wpAny _ _ (Builtin.SmallTypes.nextOf (.ref i1) >>= _) _ _ _
    refine wpAny_bind (nx_end hh f_0_i1 f_0_l1 e1 fun ge e sbe he => ?_)
    obtain ⟨oe, hoe, hce⟩ := he
    have ze : IsZip ge z TI TO .ellipsis := sbe _ _ D.i1_z.symm z0
    have hez : e ≠ z := fun x => by subst x; rw [ze] at hoe; cases hoe; simp at hce
    exact wpAny_setField_rec ze (by simp) fun gf _ sbf => hE gf e (fun c o n_z n_TO n_i1 n_i2 n_i3 x => sbf.extBut _ _ n_z (sbe _ _ n_i1 (sb0.extBut _ _ n_z (x)))) ⟨oe, sbf.extBut _ _ hez hoe, hce⟩
  | some x1 =>
    cases e2 : u2[k2]? with
    | none =>
      show wpAny _ _ (field (.ref z) 2 >>= _) _ _ _
      refine wpAny_bind (wpAny_field hz rfl (x := .bool false) rfl ?_)
      show wpAny _ _ (field (.ref z) 3 >>= _) _ _ _
      refine wpAny_bind (wpAny_field hz rfl (x := .ref TI) rfl ?_)
      refine wpAny_bind (wpAny_seqItems hTI rfl ?_)
      show wpAny _ _ (Builtin.SmallTypes.ownedTupleIsFree (.ref z) >>= _) _ _ _
      refine wpAny_bind ?_
      unfold Builtin.SmallTypes.ownedTupleIsFree
      refine wpAny_bind (wpAny_field hz rfl (x := .none) rfl (wpAny_pure ?_))
      simp only [if_true]
      refine wpAny_bind (wpAny_rule ?_)
      refine wpAny_bind (wpAny_field hz rfl (x := .ref TO) rfl ?_)
      refine wpAny_bind (wpAny_setField_rec hz (by simp) fun g0 z0 sb0 => ?_)
      replace z0 : IsZip g0 z TI TO .ellipsis := z0
      refine wpAny_bind ?_
      simp only [List.zipIdx_cons, List.zipIdx_nil, List.forIn_cons, List.forIn_nil]
      have f_0_TO := sb0.extBut _ _ D.TO_z hTO
      have f_0_i1 := (h1).keep fun o e => sb0.extBut _ o D.i1_z e
      have f_0_i2 := (h2).keep fun o e => sb0.extBut _ o D.i2_z e
      have f_0_i3 := (h3).keep fun o e => sb0.extBut _ o D.i3_z e
      have f_0_l1 := (s1).keep fun o e => sb0.extBut _ o D.l1_z e
      have f_0_l2 := (s2).keep fun o e => sb0.extBut _ o D.l2_z e
      have f_0_l3 := (s3).keep fun o e => sb0.extBut _ o D.l3_z e
      refine wpAny_bind (wpAny_bind (wpAny_onRaise ?_))
      show wpAny _ _ (Builtin.SmallTypes.nextOf (.ref i1) >>= _) _ _ _
      refine wpAny_bind (nx_item f_0_i1 f_0_l1 e1 fun ga0 it0 sba0 => wpAny_pure ?_)
      have f_a0_TO := sba0.extBut _ _ D.TO_i1 f_0_TO
      have f_a0_i2 := (f_0_i2).keep fun o e => sba0.extBut _ o D.i1_i2.symm e
      have f_a0_i3 := (f_0_i3).keep fun o e => sba0.extBut _ o D.i1_i3.symm e
      have f_a0_l1 := (f_0_l1).keep fun o e => sba0.extBut _ o D.l1_i1 e
      have f_a0_l2 := (f_0_l2).keep fun o e => sba0.extBut _ o D.l2_i1 e
      have f_a0_l3 := (f_0_l3).keep fun o e => sba0.extBut _ o D.l3_i1 e
      have f_a0_z := sba0.extBut _ _ D.i1_z.symm z0
      refine wpAny_bind (wpAny_seqItems f_a0_TO rfl ?_)
      refine wpAny_bind (upd_row3 f_a0_TO fun gb0 to0 sbb0 => ?_)
      replace to0 : IsRow3 gb0 TO x1 o2 o3 := to0
      have f_b0_i1 := (it0).keep fun o e => sbb0.extBut _ o D.TO_i1.symm e
      have f_b0_i2 := (f_a0_i2).keep fun o e => sbb0.extBut _ o D.TO_i2.symm e
      have f_b0_i3 := (f_a0_i3).keep fun o e => sbb0.extBut _ o D.TO_i3.symm e
      have f_b0_l1 := (f_a0_l1).keep fun o e => sbb0.extBut _ o D.l1_TO e
      have f_b0_l2 := (f_a0_l2).keep fun o e => sbb0.extBut _ o D.l2_TO e
      have f_b0_l3 := (f_a0_l3).keep fun o e => sbb0.extBut _ o D.l3_TO e
      have f_b0_z := sbb0.extBut _ _ D.TO_z.symm f_a0_z
      refine wpAny_bind (wpAny_letGo (wpAny_pure ?_))
      refine wpAny_bind (wpAny_bind (wpAny_onRaise ?_))
      show wpAny _ _ (Builtin.SmallTypes.nextOf (.ref i2) >>= _) _ _ _
      refine wpAny_bind (nx_end hh f_b0_i2 f_b0_l2 e2 fun ge e sbe he => ?_)
      obtain ⟨oe, hoe, hce⟩ := he
      have ze : IsZip ge z TI TO .ellipsis := sbe _ _ D.i2_z.symm f_b0_z
      have hez : e ≠ z := fun x => by subst x; rw [ze] at hoe; cases hoe; simp at hce
      exact wpAny_setField_rec ze (by simp) fun gf _ sbf => hE gf e (fun c o n_z n_TO n_i1 n_i2 n_i3 x => sbf.extBut _ _ n_z (sbe _ _ n_i2 (sbb0.extBut _ _ n_TO (sba0.extBut _ _ n_i1 (sb0.extBut _ _ n_z (x)))))) ⟨oe, sbf.extBut _ _ hez hoe, hce⟩
    | some x2 =>
      have e3 : u3[k3]? = none := by
        simp only [e1, e2, reduceCtorEq, false_or] at hend
        exact hend
      show wpAny _ _ (field (.ref z) 2 >>= _) _ _ _
      refine wpAny_bind (wpAny_field hz rfl (x := .bool false) rfl ?_)
      show wpAny _ _ (field (.ref z) 3 >>= _) _ _ _
      refine wpAny_bind (wpAny_field hz rfl (x := .ref TI) rfl ?_)
      refine wpAny_bind (wpAny_seqItems hTI rfl ?_)
      show wpAny _ _ (Builtin.SmallTypes.ownedTupleIsFree (.ref z) >>= _) _ _ _
      refine wpAny_bind ?_
      unfold Builtin.SmallTypes.ownedTupleIsFree
      refine wpAny_bind (wpAny_field hz rfl (x := .none) rfl (wpAny_pure ?_))
      simp only [if_true]
      refine wpAny_bind (wpAny_rule ?_)
      refine wpAny_bind (wpAny_field hz rfl (x := .ref TO) rfl ?_)
      refine wpAny_bind (wpAny_setField_rec hz (by simp) fun g0 z0 sb0 => ?_)
      replace z0 : IsZip g0 z TI TO .ellipsis := z0
      refine wpAny_bind ?_
      simp only [List.zipIdx_cons, List.zipIdx_nil, List.forIn_cons, List.forIn_nil]
      have f_0_TO := sb0.extBut _ _ D.TO_z hTO
      have f_0_i1 := (h1).keep fun o e => sb0.extBut _ o D.i1_z e
      have f_0_i2 := (h2).keep fun o e => sb0.extBut _ o D.i2_z e
      have f_0_i3 := (h3).keep fun o e => sb0.extBut _ o D.i3_z e
      have f_0_l1 := (s1).keep fun o e => sb0.extBut _ o D.l1_z e
      have f_0_l2 := (s2).keep fun o e => sb0.extBut _ o D.l2_z e
      have f_0_l3 := (s3).keep fun o e => sb0.extBut _ o D.l3_z e
      refine wpAny_bind (wpAny_bind (wpAny_onRaise ?_))
      show wpAny _ _ (Builtin.SmallTypes.nextOf (.ref i1) >>= _) _ _ _
      refine wpAny_bind (nx_item f_0_i1 f_0_l1 e1 fun ga0 it0 sba0 => wpAny_pure ?_)
      have f_a0_TO := sba0.extBut _ _ D.TO_i1 f_0_TO
      have f_a0_i2 := (f_0_i2).keep fun o e => sba0.extBut _ o D.i1_i2.symm e
      have f_a0_i3 := (f_0_i3).keep fun o e => sba0.extBut _ o D.i1_i3.symm e
      have f_a0_l1 := (f_0_l1).keep fun o e => sba0.extBut _ o D.l1_i1 e
      have f_a0_l2 := (f_0_l2).keep fun o e => sba0.extBut _ o D.l2_i1 e
      have f_a0_l3 := (f_0_l3).keep fun o e => sba0.extBut _ o D.l3_i1 e
      have f_a0_z := sba0.extBut _ _ D.i1_z.symm z0
      refine wpAny_bind (wpAny_seqItems f_a0_TO rfl ?_)
      refine wpAny_bind (upd_row3 f_a0_TO fun gb0 to0 sbb0 => ?_)
      replace to0 : IsRow3 gb0 TO x1 o2 o3 := to0
      have f_b0_i1 := (it0).keep fun o e => sbb0.extBut _ o D.TO_i1.symm e
      have f_b0_i2 := (f_a0_i2).keep fun o e => sbb0.extBut _ o D.TO_i2.symm e
      have f_b0_i3 := (f_a0_i3).keep fun o e => sbb0.extBut _ o D.TO_i3.symm e
      have f_b0_l1 := (f_a0_l1).keep fun o e => sbb0.extBut _ o D.l1_TO e
      have f_b0_l2 := (f_a0_l2).keep fun o e => sbb0.extBut _ o D.l2_TO e
      have f_b0_l3 := (f_a0_l3).keep fun o e => sbb0.extBut _ o D.l3_TO e
      have f_b0_z := sbb0.extBut _ _ D.TO_z.symm f_a0_z
      refine wpAny_bind (wpAny_letGo (wpAny_pure ?_))
      refine wpAny_bind (wpAny_bind (wpAny_onRaise ?_))
      show wpAny _ _ (Builtin.SmallTypes.nextOf (.ref i2) >>= _) _ _ _
      refine wpAny_bind (nx_item f_b0_i2 f_b0_l2 e2 fun ga1 it1 sba1 => wpAny_pure ?_)
      have f_a1_TO := sba1.extBut _ _ D.TO_i2 to0
      have f_a1_i1 := (f_b0_i1).keep fun o e => sba1.extBut _ o D.i1_i2 e
      have f_a1_i3 := (f_b0_i3).keep fun o e => sba1.extBut _ o D.i2_i3.symm e
      have f_a1_l1 := (f_b0_l1).keep fun o e => sba1.extBut _ o D.l1_i2 e
      have f_a1_l2 := (f_b0_l2).keep fun o e => sba1.extBut _ o D.l2_i2 e
      have f_a1_l3 := (f_b0_l3).keep fun o e => sba1.extBut _ o D.l3_i2 e
      have f_a1_z := sba1.extBut _ _ D.i2_z.symm f_b0_z
      refine wpAny_bind (wpAny_seqItems f_a1_TO rfl ?_)
      refine wpAny_bind (upd_row3 f_a1_TO fun gb1 to1 sbb1 => ?_)
      replace to1 : IsRow3 gb1 TO x1 x2 o3 := to1
      have f_b1_i1 := (f_a1_i1).keep fun o e => sbb1.extBut _ o D.TO_i1.symm e
      have f_b1_i2 := (it1).keep fun o e => sbb1.extBut _ o D.TO_i2.symm e
      have f_b1_i3 := (f_a1_i3).keep fun o e => sbb1.extBut _ o D.TO_i3.symm e
      have f_b1_l1 := (f_a1_l1).keep fun o e => sbb1.extBut _ o D.l1_TO e
      have f_b1_l2 := (f_a1_l2).keep fun o e => sbb1.extBut _ o D.l2_TO e
      have f_b1_l3 := (f_a1_l3).keep fun o e => sbb1.extBut _ o D.l3_TO e
      have f_b1_z := sbb1.extBut _ _ D.TO_z.symm f_a1_z
      refine wpAny_bind (wpAny_letGo (wpAny_pure ?_))
      refine wpAny_bind (wpAny_bind (wpAny_onRaise ?_))
      show wpAny _ _ (Builtin.SmallTypes.nextOf (.ref i3) >>= _) _ _ _
      refine wpAny_bind (nx_end hh f_b1_i3 f_b1_l3 e3 fun ge e sbe he => ?_)
      obtain ⟨oe, hoe, hce⟩ := he
      have ze : IsZip ge z TI TO .ellipsis := sbe _ _ D.i3_z.symm f_b1_z
      have hez : e ≠ z := fun x => by subst x; rw [ze] at hoe; cases hoe; simp at hce
      exact wpAny_setField_rec ze (by simp) fun gf _ sbf => hE gf e (fun c o n_z n_TO n_i1 n_i2 n_i3 x => sbf.extBut _ _ n_z (sbe _ _ n_i3 (sbb1.extBut _ _ n_TO (sba1.extBut _ _ n_i2 (sbb0.extBut _ _ n_TO (sba0.extBut _ _ n_i1 (sb0.extBut _ _ n_z (x)))))))) ⟨oe, sbf.extBut _ _ hez hoe, hce⟩
theorem zip3_item {z TI TO i1 i2 i3 l1 l2 l3 : Addr} {k1 k2 k3 : Nat} {u1 u2 u3 : Array Value} {x1 x2 x3 o1 o2 o3 : Value} {Q : Option Value → Shared → Prop} (D : Apart3 z TI TO i1 i2 i3 l1 l2 l3)
    (hz : IsZip s.heap z TI TO .none) (hTI : IsRow3 s.heap TI (.ref i1) (.ref i2) (.ref i3)) (hTO : IsRow3 s.heap TO o1 o2 o3)
    (h1 : itB s.heap i1 l1 k1 t1) (h2 : itB s.heap i2 l2 k2 t2) (h3 : itB s.heap i3 l3 k3 t3) (s1 : seB s.heap l1 u1 t1) (s2 : seB s.heap l2 u2 t2) (s3 : seB s.heap l3 u3 t3) (e1 : u1[k1]? = some x1) (e2 : u2[k2]? = some x2) (e3 : u3[k3]? = some x3)
    (hQ : ∀ h', IsZip h' z TI TO (rawInt s.heap.objs.size) → IsRow3 h' TO x1 x2 x3 → itB h' i1 l1 (k1 + 1) t1 → itB h' i2 l2 (k2 + 1) t2 → itB h' i3 l3 (k3 + 1) t3 → IsRow3 h' s.heap.objs.size x1 x2 x3 →
      (∀ c o, c ≠ z → c ≠ TO → c ≠ i1 → c ≠ i2 → c ≠ i3 → s.heap.get? c = some o → h'.get? c = some o) → Q (some (.ref s.heap.objs.size)) { s with heap := h' }) : wpAny (model prog w) A (pyNext (.ref z)) Q E s := by
  have hT : s.TypeIs (.ref z) "zip" := ⟨_, hz, rfl⟩
  unfold pyNext
  exact wpAny_bind (wpAny_attempt (wpAny_callSpecial?_slot (name := Str.ofString "__next__") hT F.slot_zip_next
    (wpAny_call_entry F.slot_zip_next hT F.entry_zip_next
      (zip3_next_item D hz hTI hTO h1 h2 h3 s1 s2 s3 e1 e2 e3 fun h' a0 a1 a2 a3 a4 a5 a6 => wpAny_pure (hQ h' a0 a1 a2 a3 a4 a5 a6)) (F.args_zip_next_1 _))))
theorem zip3_end {z TI TO i1 i2 i3 l1 l2 l3 : Addr} {k1 k2 k3 : Nat} {u1 u2 u3 : Array Value} {o1 o2 o3 : Value} {Q : Option Value → Shared → Prop} (hh : A.handled = none) (D : Apart3 z TI TO i1 i2 i3 l1 l2 l3)
    (hz : IsZip s.heap z TI TO .none) (hTI : IsRow3 s.heap TI (.ref i1) (.ref i2) (.ref i3)) (hTO : IsRow3 s.heap TO o1 o2 o3)
    (h1 : itB s.heap i1 l1 k1 t1) (h2 : itB s.heap i2 l2 k2 t2) (h3 : itB s.heap i3 l3 k3 t3) (s1 : seB s.heap l1 u1 t1) (s2 : seB s.heap l2 u2 t2) (s3 : seB s.heap l3 u3 t3) (hend : u1[k1]? = none ∨ u2[k2]? = none ∨ u3[k3]? = none)
    (hQ : ∀ h', (∀ c o, c ≠ z → c ≠ TO → c ≠ i1 → c ≠ i2 → c ≠ i3 → s.heap.get? c = some o → h'.get? c = some o) → Q none { s with heap := h' }) : wpAny (model prog w) A (pyNext (.ref z)) Q E s := by
  have hT : s.TypeIs (.ref z) "zip" := ⟨_, hz, rfl⟩
  unfold pyNext
  refine wpAny_bind (wpAny_attempt (wpAny_callSpecial?_slot (name := Str.ofString "__next__") hT F.slot_zip_next
    (wpAny_call_entry F.slot_zip_next hT F.entry_zip_next (zip3_next_end hh D hz hTI hTO h1 h2 h3 s1 s2 s3 hend fun h' e hk he => ?_) (F.args_zip_next_1 _))))
  obtain ⟨o, ho, hc⟩ := he
  refine wpAny_bind (wpAny_isInstance (T := "StopIteration") (b := true) ⟨o, ho, hc⟩ isSubtype_stop ?_)
  exact wpAny_pure (hQ _ hk)
end
section
variable {prog : Program} {w : World} {A : Around} {E : Value → Shared → Prop} {s : Shared} {tp : Bool}
/-- a sequence's new iterator -/
def itO (t : Bool) (l : Addr) : Obj := match t with
  | true => { cls := .type "tuple_iterator", data := .fields #[.ref l, .int 0 0] }
  | false => { cls := .type "list_iterator", data := .fields #[.ref l, .int 0 0] }
theorem itO_is {h : Heap} {i l : Addr} (e : h.get? i = some (itO tp l)) : itB h i l 0 tp := by
  cases tp <;> exact ⟨_, e, rfl, rfl⟩
theorem itO_free (l : Addr) : (itO tp l).isFreed = false := by cases tp <;> rfl
theorem pyIter_se {l : Addr} {us : Array Value} {Q : Value → Shared → Prop} (hl : seB s.heap l us tp)
    (hQ : Q (.ref s.heap.objs.size) { s with heap := s.heap.push (itO tp l) }) :
    wpAny (model prog w) A (pyIter (.ref l)) Q E s := by
  cases tp with
  | true => exact wpAny_pyIter_tuple hl hQ
  | false => exact wpAny_pyIter_list hl hQ
theorem tc_zip3 (a b c : Value) : checkTypeCall "zip" ⟨[a, b, c], []⟩ = pure () := by kernel_rfl
theorem nc_zip3 (a b c : Value) : checkBuiltinCall "zip.__new__" ⟨[.type "zip", a, b, c], []⟩ = pure () := by kernel_rfl
theorem ao_init4 (a b c d : Value) : argsOk "object.__init__" ⟨[a, b, c, d], []⟩ := by
  unfold argsOk
  rw [signature?_of (id := "object.__init__") (n := ['_', '_', 't', 'i', 'n', 'i', '_', '_']) (o := ['t', 'c', 'e', 'j', 'b', 'o']) (by kernel_rfl) F.owner_object]
  kernel_rfl
end
/-- what an iterator of rows yields -/
def RowY (H : Hp) (v : V) (H' : Hp) (xs : List V) : Prop := ∃ (T : Addr) (ob : Obj), v = .ref T ∧ H T = none ∧ ob.dict = none ∧ H' = upd H T (.frz ob (.tup xs))
theorem lay_row {X : Cx} {pins : List (Addr × Obj)} {σ : L2.St} {H : Hp} {s : Shared} (I : Inv X pins σ H s) {g : Heap} {t : Nat} {ch : List Addr} {xs : List V} {us : List Value} (hl : xs.length ≤ 3) (r : Vals xs us) (at_ : g.get? s.heap.objs.size = some { cls := .type "tuple", data := .seq us.toArray })
    (keep : ∀ b o, b ∉ ch → s.heap.get? b = some o → g.get? b = some o) (hf : ∀ b ∈ ch, FpOk X pins H b) :
    ∃ H', Inv X pins σ H' { s with heap := g, toks := t } ∧ RowY H (.ref s.heap.objs.size) H' xs ∧ ∀ b, b < s.heap.objs.size → H' b = H b := by
  have free := I.hok.fresh (Nat.le_refl s.heap.objs.size)
  have new : ObjOk X.prog X.w (upd H s.heap.objs.size (.frz { cls := .type "tuple", data := .seq us.toArray } (.tup xs))) g s.heap.objs.size (.frz { cls := .type "tuple", data := .seq us.toArray } (.tup xs)) :=
    ⟨at_, show xs.length ≤ sizeLine from Nat.le_trans hl (by decide), us, r, _, at_, rfl, _, rfl⟩
  exact ⟨_, I.turnedNew (t' := t) (ch := ch) keep hf (Nat.le_refl _) new, ⟨_, _, rfl, free, rfl, rfl⟩, fun b hb => upd_ne (Nat.ne_of_lt hb)⟩
abbrev zg2_1 (h : Heap) (l1 : Addr) (t1 : Bool) : Heap := (h).push (itO t1 l1)
abbrev zg2_2 (h : Heap) (l1 l2 : Addr) (t1 t2 : Bool) : Heap := (zg2_1 h l1 t1).push (itO t2 l2)
abbrev zg2_3 (h : Heap) (l1 l2 : Addr) (t1 t2 : Bool) : Heap := (zg2_2 h l1 l2 t1 t2).push { cls := .type "tuple", data := .seq #[.ref h.objs.size, .ref (zg2_1 h l1 t1).objs.size] }
abbrev zg2_4 (h : Heap) (l1 l2 : Addr) (t1 t2 : Bool) : Heap := (zg2_3 h l1 l2 t1 t2).push { cls := .type "tuple", data := .seq #[.none, .none] }
abbrev zg2_5 (h : Heap) (l1 l2 : Addr) (t1 t2 : Bool) : Heap := (zg2_4 h l1 l2 t1 t2).push { cls := .type "zip", data := .fields #[.none, .bool false, .bool false, .ref (zg2_2 h l1 l2 t1 t2).objs.size, .ref (zg2_3 h l1 l2 t1 t2).objs.size] }
theorem new_zip2 (l1 l2 : Addr) (u1 u2 : Array Value) (t1 t2 : Bool) :
    Meets (Builtin.«zip.__new__» ⟨[.type "zip", .ref l1, .ref l2], []⟩) (fun _ R s => seB s.heap l1 u1 t1 ∧ seB s.heap l2 u2 t2 ∧
      R (.ok (.ret (.ref (zg2_4 s.heap l1 l2 t1 t2).objs.size))) { s with heap := (zg2_5 s.heap l1 l2 t1 t2) }) :=
  .of_wp fun prog w A R s h => by
    obtain ⟨hp, g, d, tk, os⟩ := s
    obtain ⟨q1, q2, h⟩ := h
    have hsub := sub_zip
    have L1 : seB (Shared.heap ⟨hp, g, d, tk, os⟩) l1 u1 t1 := q1
    have L2 : seB (Shared.heap ⟨(hp).push (itO t1 l1), g, d, tk, os⟩) l2 u2 t2 := (q2.keep fun o e => Heap.get?_push_of_some _ e)
    wp_walk using pyIter_se L1, pyIter_se L2
    exact ⟨_, rfl, h⟩
section
variable {prog : Program} {w : World} {A : Around} {E : Value → Shared → Prop} {s : Shared}
theorem call_zipM2 {l1 l2 : Addr} {u1 u2 : Array Value} {t1 t2 : Bool} {Q : Value → Shared → Prop} (q1 : seB s.heap l1 u1 t1) (q2 : seB s.heap l2 u2 t2)
    (h : ∀ h', IsZip h' (s.heap.objs.size + 4) (s.heap.objs.size + 2) (s.heap.objs.size + 3) .none → IsRow2 h' (s.heap.objs.size + 2) (.ref s.heap.objs.size) (.ref (s.heap.objs.size + 1)) → IsRow2 h' (s.heap.objs.size + 3) .none .none → itB h' (s.heap.objs.size) l1 0 t1 → itB h' (s.heap.objs.size + 1) l2 0 t2 →
      (∀ c o, s.heap.get? c = some o → h'.get? c = some o) → Q (.ref (s.heap.objs.size + 4)) { s with heap := h' }) :
    wpAny (model prog w) A (call (.type "zip") [.ref l1, .ref l2]) Q E s := by
  refine callType_new F.called_zip (by decide) (F.typeCall_zip_2 _ _) (F.newCall_zip_2 _ _) (fun obj => F.args_object_init_3 obj _ _) F.entry_zip_new (new_zip2 l1 l2 u1 u2 t1 t2) ⟨q1, q2, ?_⟩
  have z1 : (zg2_1 s.heap l1 t1).objs.size = s.heap.objs.size + 1 := by rw [Heap.size_push]
  have z2 : (zg2_2 s.heap l1 l2 t1 t2).objs.size = s.heap.objs.size + 2 := by rw [Heap.size_push, z1]
  have z3 : (zg2_3 s.heap l1 l2 t1 t2).objs.size = s.heap.objs.size + 3 := by rw [Heap.size_push, z2]
  have z4 : (zg2_4 s.heap l1 l2 t1 t2).objs.size = s.heap.objs.size + 4 := by rw [Heap.size_push, z3]
  have z5 : (zg2_5 s.heap l1 l2 t1 t2).objs.size = s.heap.objs.size + 5 := by rw [Heap.size_push, z4]
  have g1 : (zg2_5 s.heap l1 l2 t1 t2).get? s.heap.objs.size = some _ := Heap.get?_push_of_some _ (Heap.get?_push_of_some _ (Heap.get?_push_of_some _ (Heap.get?_push_of_some _ (Heap.get?_push_size _ (itO_free _)))))
  have g2 : (zg2_5 s.heap l1 l2 t1 t2).get? (zg2_1 s.heap l1 t1).objs.size = some _ := Heap.get?_push_of_some _ (Heap.get?_push_of_some _ (Heap.get?_push_of_some _ (Heap.get?_push_size _ (itO_free _))))
  have g3 : (zg2_5 s.heap l1 l2 t1 t2).get? (zg2_2 s.heap l1 l2 t1 t2).objs.size = some _ := Heap.get?_push_of_some _ (Heap.get?_push_of_some _ (Heap.get?_push_size _ rfl))
  have g4 : (zg2_5 s.heap l1 l2 t1 t2).get? (zg2_3 s.heap l1 l2 t1 t2).objs.size = some _ := Heap.get?_push_of_some _ (Heap.get?_push_size _ rfl)
  have g5 : (zg2_5 s.heap l1 l2 t1 t2).get? (zg2_4 s.heap l1 l2 t1 t2).objs.size = some _ := Heap.get?_push_size _ rfl
  show _ ∧ _
  rw [z1] at g2
  rw [z2] at g3
  rw [z3] at g4
  rw [z4] at g5
  rw [z1] at g3
  rw [z2, z3] at g5
  rw [z4]
  exact ⟨⟨_, g5, rfl⟩, h _ g5 g3 g4 (itO_is g1) (itO_is g2) fun c o x => Heap.get?_push_of_some _ (Heap.get?_push_of_some _ (Heap.get?_push_of_some _ (Heap.get?_push_of_some _ (Heap.get?_push_of_some _ (x)))))⟩
end
/-- the items of 2 in rows -/
def ItzM2 (K : PySem.W.Frag) (t1 t2 : Bool) (a1 a2 : Addr) : L2.It where
  go i H := ∃ (v1 v2 : List V) (x1 x2 : V), sqB K H a1 v1 t1 ∧ sqB K H a2 v2 t2 ∧ v1[i]? = some x1 ∧ v2[i]? = some x2
  yld i H v H' := ∃ x1 x2, RowY H v H' [x1, x2] ∧ (∀ vs, sqB K H a1 vs t1 → vs[i]? = some x1) ∧ (∀ vs, sqB K H a2 vs t2 → vs[i]? = some x2)
  stop i H := ∃ v1 v2 : List V, sqB K H a1 v1 t1 ∧ sqB K H a2 v2 t2 ∧ (v1.length ≤ i ∨ v2.length ≤ i)
structure AtZM2 (t1 t2 : Bool) (z TI TO i1 i2 a1 a2 : Addr) (i : Nat) (h : Heap) : Prop where
  zip : IsZip h z TI TO .none
  ins : IsRow2 h TI (.ref i1) (.ref i2)
  out : ∃ x1 x2, IsRow2 h TO x1 x2
  p1 : itB h i1 a1 i t1
  p2 : itB h i2 a2 i t2
section
variable {t1 t2 : Bool}
theorem AtZM2.all {z TI TO i1 i2 a1 a2 : Addr} {i : Nat} {h : Heap} (x : AtZM2 t1 t2 z TI TO i1 i2 a1 a2 i h) : ∀ c ∈ [z, TI, TO, i1, i2], ∃ o, h.get? c = some o ∧ ∀ v, o.data ≠ .cell v := by
  obtain ⟨x1, x2, e⟩ := x.out
  simp only [List.mem_cons, List.not_mem_nil, or_false, forall_eq_or_imp, forall_eq]
  exact ⟨⟨_, x.zip, fun v q => nomatch q⟩, ⟨_, x.ins, fun v q => nomatch q⟩, ⟨_, e, fun v q => nomatch q⟩, x.p1.obj, x.p2.obj⟩
theorem turnZM2 {P : Program} {w : World} {K : PySem.W.Frag} {elts : List Expr} {kk : Nat} {tpos : Pos} {z TI TO i1 i2 a1 a2 : Addr} (D : Apart2 z TI TO i1 i2 a1 a2) : Turn P w K (.Tuple elts kk tpos) (ItzM2 K t1 t2 a1 a2) [z, TI, TO, i1, i2] z (AtZM2 t1 t2 z TI TO i1 i2 a1 a2) where
  mem := List.mem_cons_self
  obj i h st c hc := st.all c hc
  keep i h h' st k := by
    obtain ⟨x1, x2, e⟩ := st.out
    exact ⟨k z (by simp) _ st.zip, k TI (by simp) _ st.ins, ⟨x1, x2, k TO (by simp) _ e⟩, st.p1.keep fun o q => k i1 (by simp) o q, st.p2.keep fun o q => k i2 (by simp) o q⟩
  item := by
    intro X hP hw hK hc i pins s σ H E I hf st hg
    subst hP hw hK
    obtain ⟨v1, v2, x1, x2, q1, q2, e1, e2⟩ := hg
    obtain ⟨us1, r1, s1⟩ := q1.at I
    obtain ⟨w1, hw1, rw1⟩ := r1.get e1
    obtain ⟨us2, r2, s2⟩ := q2.at I
    obtain ⟨w2, hw2, rw2⟩ := r2.get e2
    obtain ⟨c1, c2, e⟩ := st.out
    have lz : z < s.heap.objs.size := Heap.lt_size st.zip
    refine zip2_item D st.zip st.ins e st.p1 st.p2 s1 s2 (x1 := w1) (x2 := w2) (by simpa using hw1) (by simpa using hw2) fun g y0 y1 m1 m2 yt hk => ?_
    refine ⟨_, rfl, wpAny_letOwnedTupleGo_zip (s := { s with heap := g }) y0 fun g2 zz sb => ?_⟩
    have hin : ∀ {q : Addr}, q ∉ [z, TI, TO, i1, i2] → q ≠ z ∧ q ≠ TO ∧ q ≠ i1 ∧ q ≠ i2 := fun h => by simp at h; exact ⟨h.1, h.2.2.1, h.2.2.2.1, h.2.2.2.2⟩
    obtain ⟨H', I1, hyl, hold⟩ := lay_row (t := s.toks) (ch := [z, TI, TO, i1, i2]) I (xs := [x1, x2]) (us := [w1, w2]) (by simp) (.cons rw1 (.cons rw2 .nil)) ((sb.2 _ (Nat.ne_of_gt lz)).trans yt) (fun q o hb e => by
      have hb' := hin hb
      exact (sb.2 q hb'.1).trans (hk q o hb'.1 hb'.2.1 hb'.2.2.1 hb'.2.2.2 e)) hf
    refine ⟨.ref s.heap.objs.size, H', I1, rfl, ⟨x1, x2, hyl, fun l hl => by rw [hl.inj I q1]; exact e1, fun l hl => by rw [hl.inj I q2]; exact e2⟩, ⟨zz, ?_, ⟨w1, w2, ?_⟩, ?_, ?_⟩, fun q hq => ?_⟩
    · exact (sb.2 _ D.TI_z).trans (hk _ _ D.TI_z D.TI_TO D.TI_i1 D.TI_i2 st.ins)
    · exact (sb.2 _ D.TO_z).trans y1
    · exact m1.keep fun o q => (sb.2 _ D.i1_z).trans q
    · exact m2.keep fun o q => (sb.2 _ D.i2_z).trans q
    · obtain ⟨o, ho, _⟩ := st.all q hq
      rw [hold q (Heap.lt_size ho)]
      exact (hf q hq).1
  done := by
    intro X hP hw hK hc i pins s σ H E I hf st hg
    subst hP hw hK
    obtain ⟨v1, v2, q1, q2, hend⟩ := hg
    obtain ⟨us1, r1, s1⟩ := q1.at I
    have n1 := r1.length
    obtain ⟨us2, r2, s2⟩ := q2.at I
    have n2 := r2.length
    obtain ⟨c1, c2, e⟩ := st.out
    have he : us1.toArray[i]? = none ∨ us2.toArray[i]? = none := by
      rcases hend with q | q
      · exact .inl (by simp; omega)
      · exact .inr ((by simp; omega))
    exact zip2_end (I.ok.hd hc) D st.zip st.ins e st.p1 st.p2 s1 s2 he fun g hk => ⟨rfl, I.turnedL (t' := s.toks) (ch := [z, TI, TO, i1, i2]) (fun q o h e => by simp at h; exact hk q o (h.1) (h.2.2.1) (h.2.2.2.1) (h.2.2.2.2) e) hf⟩
  self A i s Q E st h := wpAny_pyIter_zip st.zip h
end
def iZipM2 (K : PySem.W.Frag) (ta : TA) : TI := fun σ H R => ta σ H fun vs H1 => ∃ t1 t2 a1 a2 v1 v2, vs = [.ref a1, .ref a2] ∧ sqB K H1 a1 v1 t1 ∧ sqB K H1 a2 v2 t2 ∧ R (ItzM2 K t1 t2 a1 a2) H1
theorem pi_zipM2 {X : Cx} {e1 e2 : Expr} {ta : TA} {p pos tpos : Pos} {elts : List Expr} {kk : Nat} (hg : Gl X "zip") (hm : X.mg "zip" = none) (ha : PA X [e1, e2] ta)
    (hs : starEach [e1, e2] X.env = (false, eval e1 X.env) :: starEach [e2] X.env := by rfl) (hpl : (backTo pos (starEach [e2] X.env)).any (·.1) = false := by rfl) :
    PI X (.Tuple elts kk tpos) (.Call (.Name "zip" p) [e1, e2] [] pos) (iZipM2 X.K ta) := by
  constructor
  intro pins s0 σ H R I h
  refine Call_ (ld_blt I hg hm PyProof.Rows.boot_zip (PyProof.Rows.callWith_type1 (thn (ha.run pos pins s0 σ H _ I h) ?_) hs hpl))
  rintro us sx ⟨vs, H1, I1, rl, t1, t2, a1, a2, v1, v2, rfl, q1, q2, hr⟩
  cases rl with
  | cons r1 rl =>
    cases rl with
    | cons r2 rl =>
      cases rl
      cases r1
      cases r2
      obtain ⟨us1, r1, s1⟩ := q1.at I1
      obtain ⟨us2, r2, s2⟩ := q2.at I1
      have D : Apart2 (sx.heap.objs.size + 4) (sx.heap.objs.size + 2) (sx.heap.objs.size + 3) sx.heap.objs.size (sx.heap.objs.size + 1) a1 a2 := by
        have b1 : a1 < sx.heap.objs.size := s1.lt
        have b2 : a2 < sx.heap.objs.size := s2.lt
        clear hr hs hpl
        constructor <;> (intro h; simp only [Addr] at *; omega)
      refine call_zipM2 s1 s2 fun g y0 y1 y2 m1 m2 hk => ?_
      refine wpAny_pyIter_zip y0 ⟨_, _, _, _, H1, rfl, I1.kept (t' := sx.toks) hk, turnZM2 D, ⟨y0, y1, ⟨_, _, y2⟩, m1, m2⟩, fun c hc => ?_, hr⟩
      have hle : sx.heap.objs.size ≤ c := by
        simp only [List.mem_cons, List.not_mem_nil, or_false] at hc
        rcases hc with e | e | e | e | e <;> rw [e] <;> first | exact Nat.le_refl _ | exact Nat.le_add_right _ _
      exact I1.fpOk hle (I1.hok.fresh hle)
abbrev zg3_1 (h : Heap) (l1 : Addr) (t1 : Bool) : Heap := (h).push (itO t1 l1)
abbrev zg3_2 (h : Heap) (l1 l2 : Addr) (t1 t2 : Bool) : Heap := (zg3_1 h l1 t1).push (itO t2 l2)
abbrev zg3_3 (h : Heap) (l1 l2 l3 : Addr) (t1 t2 t3 : Bool) : Heap := (zg3_2 h l1 l2 t1 t2).push (itO t3 l3)
abbrev zg3_4 (h : Heap) (l1 l2 l3 : Addr) (t1 t2 t3 : Bool) : Heap := (zg3_3 h l1 l2 l3 t1 t2 t3).push { cls := .type "tuple", data := .seq #[.ref h.objs.size, .ref (zg3_1 h l1 t1).objs.size, .ref (zg3_2 h l1 l2 t1 t2).objs.size] }
abbrev zg3_5 (h : Heap) (l1 l2 l3 : Addr) (t1 t2 t3 : Bool) : Heap := (zg3_4 h l1 l2 l3 t1 t2 t3).push { cls := .type "tuple", data := .seq #[.none, .none, .none] }
abbrev zg3_6 (h : Heap) (l1 l2 l3 : Addr) (t1 t2 t3 : Bool) : Heap := (zg3_5 h l1 l2 l3 t1 t2 t3).push { cls := .type "zip", data := .fields #[.none, .bool false, .bool false, .ref (zg3_3 h l1 l2 l3 t1 t2 t3).objs.size, .ref (zg3_4 h l1 l2 l3 t1 t2 t3).objs.size] }
theorem new_zip3 (l1 l2 l3 : Addr) (u1 u2 u3 : Array Value) (t1 t2 t3 : Bool) :
    Meets (Builtin.«zip.__new__» ⟨[.type "zip", .ref l1, .ref l2, .ref l3], []⟩) (fun _ R s => seB s.heap l1 u1 t1 ∧ seB s.heap l2 u2 t2 ∧ seB s.heap l3 u3 t3 ∧
      R (.ok (.ret (.ref (zg3_5 s.heap l1 l2 l3 t1 t2 t3).objs.size))) { s with heap := (zg3_6 s.heap l1 l2 l3 t1 t2 t3) }) :=
  .of_wp fun prog w A R s h => by
    obtain ⟨hp, g, d, tk, os⟩ := s
    obtain ⟨q1, q2, q3, h⟩ := h
    have hsub := sub_zip
    have L1 : seB (Shared.heap ⟨hp, g, d, tk, os⟩) l1 u1 t1 := q1
    have L2 : seB (Shared.heap ⟨(hp).push (itO t1 l1), g, d, tk, os⟩) l2 u2 t2 := (q2.keep fun o e => Heap.get?_push_of_some _ e)
    have L3 : seB (Shared.heap ⟨((hp).push (itO t1 l1)).push (itO t2 l2), g, d, tk, os⟩) l3 u3 t3 := ((q3.keep fun o e => Heap.get?_push_of_some _ e).keep fun o e => Heap.get?_push_of_some _ e)
    wp_walk using pyIter_se L1, pyIter_se L2, pyIter_se L3
    exact ⟨_, rfl, h⟩
section
variable {prog : Program} {w : World} {A : Around} {E : Value → Shared → Prop} {s : Shared}
theorem call_zipM3 {l1 l2 l3 : Addr} {u1 u2 u3 : Array Value} {t1 t2 t3 : Bool} {Q : Value → Shared → Prop} (q1 : seB s.heap l1 u1 t1) (q2 : seB s.heap l2 u2 t2) (q3 : seB s.heap l3 u3 t3)
    (h : ∀ h', IsZip h' (s.heap.objs.size + 5) (s.heap.objs.size + 3) (s.heap.objs.size + 4) .none → IsRow3 h' (s.heap.objs.size + 3) (.ref s.heap.objs.size) (.ref (s.heap.objs.size + 1)) (.ref (s.heap.objs.size + 2)) → IsRow3 h' (s.heap.objs.size + 4) .none .none .none → itB h' (s.heap.objs.size) l1 0 t1 → itB h' (s.heap.objs.size + 1) l2 0 t2 → itB h' (s.heap.objs.size + 2) l3 0 t3 →
      (∀ c o, s.heap.get? c = some o → h'.get? c = some o) → Q (.ref (s.heap.objs.size + 5)) { s with heap := h' }) :
    wpAny (model prog w) A (call (.type "zip") [.ref l1, .ref l2, .ref l3]) Q E s := by
  refine callType_new F.called_zip (by decide) (tc_zip3 _ _ _) (nc_zip3 _ _ _) (fun obj => ao_init4 obj _ _ _) F.entry_zip_new (new_zip3 l1 l2 l3 u1 u2 u3 t1 t2 t3) ⟨q1, q2, q3, ?_⟩
  have z1 : (zg3_1 s.heap l1 t1).objs.size = s.heap.objs.size + 1 := by rw [Heap.size_push]
  have z2 : (zg3_2 s.heap l1 l2 t1 t2).objs.size = s.heap.objs.size + 2 := by rw [Heap.size_push, z1]
  have z3 : (zg3_3 s.heap l1 l2 l3 t1 t2 t3).objs.size = s.heap.objs.size + 3 := by rw [Heap.size_push, z2]
  have z4 : (zg3_4 s.heap l1 l2 l3 t1 t2 t3).objs.size = s.heap.objs.size + 4 := by rw [Heap.size_push, z3]
  have z5 : (zg3_5 s.heap l1 l2 l3 t1 t2 t3).objs.size = s.heap.objs.size + 5 := by rw [Heap.size_push, z4]
  have z6 : (zg3_6 s.heap l1 l2 l3 t1 t2 t3).objs.size = s.heap.objs.size + 6 := by rw [Heap.size_push, z5]
  have g1 : (zg3_6 s.heap l1 l2 l3 t1 t2 t3).get? s.heap.objs.size = some _ := Heap.get?_push_of_some _ (Heap.get?_push_of_some _ (Heap.get?_push_of_some _ (Heap.get?_push_of_some _ (Heap.get?_push_of_some _ (Heap.get?_push_size _ (itO_free _))))))
  have g2 : (zg3_6 s.heap l1 l2 l3 t1 t2 t3).get? (zg3_1 s.heap l1 t1).objs.size = some _ := Heap.get?_push_of_some _ (Heap.get?_push_of_some _ (Heap.get?_push_of_some _ (Heap.get?_push_of_some _ (Heap.get?_push_size _ (itO_free _)))))
  have g3 : (zg3_6 s.heap l1 l2 l3 t1 t2 t3).get? (zg3_2 s.heap l1 l2 t1 t2).objs.size = some _ := Heap.get?_push_of_some _ (Heap.get?_push_of_some _ (Heap.get?_push_of_some _ (Heap.get?_push_size _ (itO_free _))))
  have g4 : (zg3_6 s.heap l1 l2 l3 t1 t2 t3).get? (zg3_3 s.heap l1 l2 l3 t1 t2 t3).objs.size = some _ := Heap.get?_push_of_some _ (Heap.get?_push_of_some _ (Heap.get?_push_size _ rfl))
  have g5 : (zg3_6 s.heap l1 l2 l3 t1 t2 t3).get? (zg3_4 s.heap l1 l2 l3 t1 t2 t3).objs.size = some _ := Heap.get?_push_of_some _ (Heap.get?_push_size _ rfl)
  have g6 : (zg3_6 s.heap l1 l2 l3 t1 t2 t3).get? (zg3_5 s.heap l1 l2 l3 t1 t2 t3).objs.size = some _ := Heap.get?_push_size _ rfl
  show _ ∧ _
  rw [z1] at g2
  rw [z2] at g3
  rw [z3] at g4
  rw [z4] at g5
  rw [z5] at g6
  rw [z1, z2] at g4
  rw [z3, z4] at g6
  rw [z5]
  exact ⟨⟨_, g6, rfl⟩, h _ g6 g4 g5 (itO_is g1) (itO_is g2) (itO_is g3) fun c o x => Heap.get?_push_of_some _ (Heap.get?_push_of_some _ (Heap.get?_push_of_some _ (Heap.get?_push_of_some _ (Heap.get?_push_of_some _ (Heap.get?_push_of_some _ (x))))))⟩
end
/-- the items of 3 in rows -/
def ItzM3 (K : PySem.W.Frag) (t1 t2 t3 : Bool) (a1 a2 a3 : Addr) : L2.It where
  go i H := ∃ (v1 v2 v3 : List V) (x1 x2 x3 : V), sqB K H a1 v1 t1 ∧ sqB K H a2 v2 t2 ∧ sqB K H a3 v3 t3 ∧ v1[i]? = some x1 ∧ v2[i]? = some x2 ∧ v3[i]? = some x3
  yld i H v H' := ∃ x1 x2 x3, RowY H v H' [x1, x2, x3] ∧ (∀ vs, sqB K H a1 vs t1 → vs[i]? = some x1) ∧ (∀ vs, sqB K H a2 vs t2 → vs[i]? = some x2) ∧ (∀ vs, sqB K H a3 vs t3 → vs[i]? = some x3)
  stop i H := ∃ v1 v2 v3 : List V, sqB K H a1 v1 t1 ∧ sqB K H a2 v2 t2 ∧ sqB K H a3 v3 t3 ∧ (v1.length ≤ i ∨ v2.length ≤ i ∨ v3.length ≤ i)
structure AtZM3 (t1 t2 t3 : Bool) (z TI TO i1 i2 i3 a1 a2 a3 : Addr) (i : Nat) (h : Heap) : Prop where
  zip : IsZip h z TI TO .none
  ins : IsRow3 h TI (.ref i1) (.ref i2) (.ref i3)
  out : ∃ x1 x2 x3, IsRow3 h TO x1 x2 x3
  p1 : itB h i1 a1 i t1
  p2 : itB h i2 a2 i t2
  p3 : itB h i3 a3 i t3
section
variable {t1 t2 t3 : Bool}
theorem AtZM3.all {z TI TO i1 i2 i3 a1 a2 a3 : Addr} {i : Nat} {h : Heap} (x : AtZM3 t1 t2 t3 z TI TO i1 i2 i3 a1 a2 a3 i h) : ∀ c ∈ [z, TI, TO, i1, i2, i3], ∃ o, h.get? c = some o ∧ ∀ v, o.data ≠ .cell v := by
  obtain ⟨x1, x2, x3, e⟩ := x.out
  simp only [List.mem_cons, List.not_mem_nil, or_false, forall_eq_or_imp, forall_eq]
  exact ⟨⟨_, x.zip, fun v q => nomatch q⟩, ⟨_, x.ins, fun v q => nomatch q⟩, ⟨_, e, fun v q => nomatch q⟩, x.p1.obj, x.p2.obj, x.p3.obj⟩
theorem turnZM3 {P : Program} {w : World} {K : PySem.W.Frag} {elts : List Expr} {kk : Nat} {tpos : Pos} {z TI TO i1 i2 i3 a1 a2 a3 : Addr} (D : Apart3 z TI TO i1 i2 i3 a1 a2 a3) : Turn P w K (.Tuple elts kk tpos) (ItzM3 K t1 t2 t3 a1 a2 a3) [z, TI, TO, i1, i2, i3] z (AtZM3 t1 t2 t3 z TI TO i1 i2 i3 a1 a2 a3) where
  mem := List.mem_cons_self
  obj i h st c hc := st.all c hc
  keep i h h' st k := by
    obtain ⟨x1, x2, x3, e⟩ := st.out
    exact ⟨k z (by simp) _ st.zip, k TI (by simp) _ st.ins, ⟨x1, x2, x3, k TO (by simp) _ e⟩, st.p1.keep fun o q => k i1 (by simp) o q, st.p2.keep fun o q => k i2 (by simp) o q, st.p3.keep fun o q => k i3 (by simp) o q⟩
  item := by
    intro X hP hw hK hc i pins s σ H E I hf st hg
    subst hP hw hK
    obtain ⟨v1, v2, v3, x1, x2, x3, q1, q2, q3, e1, e2, e3⟩ := hg
    obtain ⟨us1, r1, s1⟩ := q1.at I
    obtain ⟨w1, hw1, rw1⟩ := r1.get e1
    obtain ⟨us2, r2, s2⟩ := q2.at I
    obtain ⟨w2, hw2, rw2⟩ := r2.get e2
    obtain ⟨us3, r3, s3⟩ := q3.at I
    obtain ⟨w3, hw3, rw3⟩ := r3.get e3
    obtain ⟨c1, c2, c3, e⟩ := st.out
    have lz : z < s.heap.objs.size := Heap.lt_size st.zip
    refine zip3_item D st.zip st.ins e st.p1 st.p2 st.p3 s1 s2 s3 (x1 := w1) (x2 := w2) (x3 := w3) (by simpa using hw1) (by simpa using hw2) (by simpa using hw3) fun g y0 y1 m1 m2 m3 yt hk => ?_
    refine ⟨_, rfl, wpAny_letOwnedTupleGo_zip (s := { s with heap := g }) y0 fun g2 zz sb => ?_⟩
    have hin : ∀ {q : Addr}, q ∉ [z, TI, TO, i1, i2, i3] → q ≠ z ∧ q ≠ TO ∧ q ≠ i1 ∧ q ≠ i2 ∧ q ≠ i3 := fun h => by simp at h; exact ⟨h.1, h.2.2.1, h.2.2.2.1, h.2.2.2.2.1, h.2.2.2.2.2⟩
    obtain ⟨H', I1, hyl, hold⟩ := lay_row (t := s.toks) (ch := [z, TI, TO, i1, i2, i3]) I (xs := [x1, x2, x3]) (us := [w1, w2, w3]) (by simp) (.cons rw1 (.cons rw2 (.cons rw3 .nil))) ((sb.2 _ (Nat.ne_of_gt lz)).trans yt) (fun q o hb e => by
      have hb' := hin hb
      exact (sb.2 q hb'.1).trans (hk q o hb'.1 hb'.2.1 hb'.2.2.1 hb'.2.2.2.1 hb'.2.2.2.2 e)) hf
    refine ⟨.ref s.heap.objs.size, H', I1, rfl, ⟨x1, x2, x3, hyl, fun l hl => by rw [hl.inj I q1]; exact e1, fun l hl => by rw [hl.inj I q2]; exact e2, fun l hl => by rw [hl.inj I q3]; exact e3⟩, ⟨zz, ?_, ⟨w1, w2, w3, ?_⟩, ?_, ?_, ?_⟩, fun q hq => ?_⟩
    · exact (sb.2 _ D.TI_z).trans (hk _ _ D.TI_z D.TI_TO D.TI_i1 D.TI_i2 D.TI_i3 st.ins)
    · exact (sb.2 _ D.TO_z).trans y1
    · exact m1.keep fun o q => (sb.2 _ D.i1_z).trans q
    · exact m2.keep fun o q => (sb.2 _ D.i2_z).trans q
    · exact m3.keep fun o q => (sb.2 _ D.i3_z).trans q
    · obtain ⟨o, ho, _⟩ := st.all q hq
      rw [hold q (Heap.lt_size ho)]
      exact (hf q hq).1
  done := by
    intro X hP hw hK hc i pins s σ H E I hf st hg
    subst hP hw hK
    obtain ⟨v1, v2, v3, q1, q2, q3, hend⟩ := hg
    obtain ⟨us1, r1, s1⟩ := q1.at I
    have n1 := r1.length
    obtain ⟨us2, r2, s2⟩ := q2.at I
    have n2 := r2.length
    obtain ⟨us3, r3, s3⟩ := q3.at I
    have n3 := r3.length
    obtain ⟨c1, c2, c3, e⟩ := st.out
    have he : us1.toArray[i]? = none ∨ us2.toArray[i]? = none ∨ us3.toArray[i]? = none := by
      rcases hend with q | q | q
      · exact .inl (by simp; omega)
      · exact .inr (.inl (by simp; omega))
      · exact .inr (.inr ((by simp; omega)))
    exact zip3_end (I.ok.hd hc) D st.zip st.ins e st.p1 st.p2 st.p3 s1 s2 s3 he fun g hk => ⟨rfl, I.turnedL (t' := s.toks) (ch := [z, TI, TO, i1, i2, i3]) (fun q o h e => by simp at h; exact hk q o (h.1) (h.2.2.1) (h.2.2.2.1) (h.2.2.2.2.1) (h.2.2.2.2.2) e) hf⟩
  self A i s Q E st h := wpAny_pyIter_zip st.zip h
end
def iZipM3 (K : PySem.W.Frag) (ta : TA) : TI := fun σ H R => ta σ H fun vs H1 => ∃ t1 t2 t3 a1 a2 a3 v1 v2 v3, vs = [.ref a1, .ref a2, .ref a3] ∧ sqB K H1 a1 v1 t1 ∧ sqB K H1 a2 v2 t2 ∧ sqB K H1 a3 v3 t3 ∧ R (ItzM3 K t1 t2 t3 a1 a2 a3) H1
theorem pi_zipM3 {X : Cx} {e1 e2 e3 : Expr} {ta : TA} {p pos tpos : Pos} {elts : List Expr} {kk : Nat} (hg : Gl X "zip") (hm : X.mg "zip" = none) (ha : PA X [e1, e2, e3] ta)
    (hs : starEach [e1, e2, e3] X.env = (false, eval e1 X.env) :: starEach [e2, e3] X.env := by rfl) (hpl : (backTo pos (starEach [e2, e3] X.env)).any (·.1) = false := by rfl) :
    PI X (.Tuple elts kk tpos) (.Call (.Name "zip" p) [e1, e2, e3] [] pos) (iZipM3 X.K ta) := by
  constructor
  intro pins s0 σ H R I h
  refine Call_ (ld_blt I hg hm PyProof.Rows.boot_zip (PyProof.Rows.callWith_type1 (thn (ha.run pos pins s0 σ H _ I h) ?_) hs hpl))
  rintro us sx ⟨vs, H1, I1, rl, t1, t2, t3, a1, a2, a3, v1, v2, v3, rfl, q1, q2, q3, hr⟩
  cases rl with
  | cons r1 rl =>
    cases rl with
    | cons r2 rl =>
      cases rl with
      | cons r3 rl =>
        cases rl
        cases r1
        cases r2
        cases r3
        obtain ⟨us1, r1, s1⟩ := q1.at I1
        obtain ⟨us2, r2, s2⟩ := q2.at I1
        obtain ⟨us3, r3, s3⟩ := q3.at I1
        have D : Apart3 (sx.heap.objs.size + 5) (sx.heap.objs.size + 3) (sx.heap.objs.size + 4) sx.heap.objs.size (sx.heap.objs.size + 1) (sx.heap.objs.size + 2) a1 a2 a3 := by
          have b1 : a1 < sx.heap.objs.size := s1.lt
          have b2 : a2 < sx.heap.objs.size := s2.lt
          have b3 : a3 < sx.heap.objs.size := s3.lt
          clear hr hs hpl
          constructor <;> (intro h; simp only [Addr] at *; omega)
        refine call_zipM3 s1 s2 s3 fun g y0 y1 y2 m1 m2 m3 hk => ?_
        refine wpAny_pyIter_zip y0 ⟨_, _, _, _, H1, rfl, I1.kept (t' := sx.toks) hk, turnZM3 D, ⟨y0, y1, ⟨_, _, _, y2⟩, m1, m2, m3⟩, fun c hc => ?_, hr⟩
        have hle : sx.heap.objs.size ≤ c := by
          simp only [List.mem_cons, List.not_mem_nil, or_false] at hc
          rcases hc with e | e | e | e | e | e <;> rw [e] <;> first | exact Nat.le_refl _ | exact Nat.le_add_right _ _
        exact I1.fpOk hle (I1.hok.fresh hle)
end MP
end MZip

section MTgt
set_option Elab.async false
set_option linter.all false
set_option maxRecDepth 100000
set_option autoImplicit false
set_option maxHeartbeats 2000000
/-! MTgt: targets, what is walked, list comprehensions. -/
namespace MP
open PySem PySem.Spec PyProof.Rows L2
variable [Cla]
variable {Fx : FX} {Ef : L2.St → FX} {Xp : Exc → Store → Prop}

section
variable {W0 W : Wd} {H0 H : Hp} {st : Store}
theorem Ext.writeL {D : Addr} {o : HO} (x : Ext W0 H0 W H) (n : H0 D = none) : Ext W0 H0 W (upd H D o) where
  pre := x.pre
  im := x.im
  frm := fun a u e k => by
    have ha : a ≠ D := fun z => by rw [z, n] at e; cases e
    rw [upd_ne ha]
    exact x.frm a u e k
  newI := x.newI
  newE := x.newE
  dom := fun a h => by
    by_cases q : a = D
    · rw [q, upd_same]; simp
    · rw [upd_ne q]; exact x.dom a h
theorem Gd.writeL {D : Addr} {o : HO} (g : Gd W st H) (l : Loose W H D) : Gd W st (upd H D o) where
  len := g.len
  nd := g.nd
  cells := fun i c a e1 e2 => by
    have ha : a ≠ D := fun z => l.2.2 (z ▸ List.mem_of_getElem? e2)
    exact (g.cells i c a e1 e2).mono (fun _ h => h) (fun b u i e => by rw [upd_ne (show b ≠ D from fun z => l.2.1 (z ▸ i))]; exact e) (fun u e => by rw [upd_ne ha]; exact e) fun h => h
  imm := fun a h => by
    by_cases q : a = D
    · rw [q, upd_same]; simp
    · rw [upd_ne q]; exact g.imm a h
  tr := fun a h => by
    by_cases q : a = D
    · rw [q, upd_same]; simp
    · rw [upd_ne q]; exact g.tr a h
theorem Loose.writeL {D : Addr} {o : HO} (l : Loose W H D) : Loose W (upd H D o) D := ⟨by rw [upd_same]; simp, l.2.1, l.2.2⟩
theorem At.settle' {α β : Type} {R : Hp → Wd → Hp → β → α → Prop} {Q : β → Hp → Prop} {Wb : Wd} {H9 : Hp} {d : D} {v : V} {k : PyData → M α} (h : At Fx W0 H0 R (MP.settle d >>= k) W H st Q) (r : DR H9 W H v d) (f : ∀ p, H9 p = none → H0 p = none) (xb : Ext Wb H9 W H) :
    ∃ u W2 st2, Ext Wb H9 W2 H ∧ Dv W2.im H v u ∧ (∀ ρ σ, EnvR W H ρ σ → EnvR W2 H ρ σ) ∧ (∀ u e, DvAll W.im H u e → DvAll W2.im H u e) ∧ At Fx W0 H0 R (k u) W2 H st2 Q := by
  obtain ⟨x, g, w⟩ := h
  rw [wp_bind] at w
  cases d with
  | dat d => exact ⟨d, W, st, xb, r, fun _ _ h => h, fun _ _ h => h, x, g, w⟩
  | tree ts => exact w.elim
  | ref i =>
    obtain ⟨a, ha, rfl⟩ := r
    obtain ⟨xs, hx, w⟩ := wp_settleR.mp w
    obtain ⟨_, vs, hv, q⟩ := g.live hx ha
    exact ⟨.list xs, W.addI a, _, xb.still (List.mem_of_getElem? ha), .lst (.inl rfl) (.inl hv) q.own, fun _ _ h => h.own, fun _ _ h => h.own, x.still (List.mem_of_getElem? ha), g.still ha, w⟩
  | newL xs =>
    obtain ⟨p, vs, rfl, hp, l, n, q⟩ := r
    exact ⟨.list xs, W.addI p, st, xb.own n, .lst (.inl rfl) (.inl hp) q.own, fun _ _ h => h.own, fun _ _ h => h.own, x.own (f _ n), g.own l, w⟩
  | newD t kvs =>
    obtain ⟨p, rfl, l, n, q⟩ := r
    refine ⟨.dict kvs, W.addI p, st, xb.own n, ?_, fun _ _ h => h.own, fun _ _ h => h.own, x.own (f _ n), g.own l, w⟩
    cases t with
    | false =>
      obtain ⟨ks, e, k⟩ := q
      exact .dctK (.inl rfl) e (k.mono (fun _ h => .inr h) fun _ _ _ e => e)
    | true =>
      obtain ⟨ks, e, k⟩ := q
      exact .dctT (.inl rfl) e (k.mono (fun _ h => .inr h) fun _ _ _ e => e)
end

/-! ### what is walked -/
def Yld (W : Wd) (H : Hp) (J : L2.It) (xs : List PyData) : Prop := ∀ W' H' (i : Nat), Ext W H W' H' →
  (xs.length ≤ i → J.stop i H') ∧ ∀ x, xs[i]? = some x → J.go i H' ∧ ∀ v H2, J.yld i H' v H2 → ∃ W2, Ext W' H' W2 H2 ∧ Dv W2.im H2 v x ∧ ∀ st, Gd W' st H' → Gd W2 st H2
abbrev RI : Hp → Wd → Hp → L2.It → List PyData → Prop := fun _ W H J xs => Yld W H J xs
section
variable {K : PySem.W.Frag} {W : Wd} {H : Hp}
theorem yld_list {a : Addr} {vs : List V} {xs : List PyData} (i : W.im a) (r : Rd H a (.lst vs)) (q : DvAll W.im H vs xs) : Yld W H (Itl K a) xs := fun W' H' n x => by
  have d : Dv W'.im H' (.ref a) (.list xs) := x.dv (.lst i r q)
  cases d with
  | lst i' r' q' =>
    rename_i ws
    refine ⟨fun h => ⟨ws, .inl r', by rw [q'.length]; exact h⟩, fun y e => ?_⟩
    obtain ⟨w, e1, e2⟩ := q'.get e
    refine ⟨⟨ws, w, .inl r', e1⟩, fun v H2 ⟨h1, h2⟩ => ?_⟩
    subst h1
    have z := h2 ws (.inl r')
    rw [e1] at z
    cases z
    exact ⟨W', .refl, e2, fun _ g => g⟩
theorem yld_tup {a : Addr} {vs : List V} {xs : List PyData} (i : W.im a) (r : StT H a vs) (q : DvAll W.im H vs xs) : Yld W H (Itt K a) xs := fun W' H' n x => by
  have d : Dv W'.im H' (.ref a) (.tuple xs) := x.dv (.tup i r q)
  cases d with
  | tup i' r' q' =>
    rename_i ws
    refine ⟨fun h => ⟨ws, r'.sq, by rw [q'.length]; exact h⟩, fun y e => ?_⟩
    obtain ⟨w, e1, e2⟩ := q'.get e
    refine ⟨⟨ws, w, r'.sq, e1⟩, fun v H2 ⟨h1, h2⟩ => ?_⟩
    subst h1
    have z := h2 ws (r'.sq)
    rw [e1] at z
    cases z
    exact ⟨W', .refl, e2, fun _ g => g⟩
theorem rng_get : ∀ (n : Nat) (lo : Int) (i : Nat), (rngL lo n)[i]? = if i < n then some (.int (lo + i)) else none
  | 0, lo, i => by unfold MP.rngL; simp
  | n + 1, lo, 0 => by unfold MP.rngL; simp
  | n + 1, lo, i + 1 => by
    unfold MP.rngL
    rw [List.getElem?_cons_succ, rng_get n (lo + 1) i]
    by_cases h : i < n
    · rw [if_pos h, if_pos (by omega)]
      congr 2
      omega
    · rw [if_neg h, if_neg (by omega)]
theorem rng_len : ∀ (n : Nat) (lo : Int), (rngL lo n).length = n
  | 0, lo => rfl
  | n + 1, lo => by unfold MP.rngL; rw [List.length_cons, rng_len n]
theorem yld_rng (lo : Int) (n : Nat) : Yld W H (Itr lo n) (rngL lo n) := fun W' H' i x => by
  refine ⟨fun h => by rw [rng_len] at h; exact h, fun y e => ?_⟩
  rw [rng_get] at e
  by_cases h : i < n
  · rw [if_pos h] at e
    cases e
    refine ⟨h, fun v H2 ⟨h1, h2⟩ => ?_⟩
    subst h1 h2
    exact ⟨W', .refl, .int _, fun _ g => g⟩
  · rw [if_neg h] at e; cases e
theorem enumL_get : ∀ (xs : List PyData) (k : Int) (i : Nat), (enumL xs k)[i]? = (xs[i]?).map fun x => .tuple [.int (k + i), x]
  | [], k, i => by unfold enumL; simp
  | x :: r, k, 0 => by unfold enumL; simp
  | x :: r, k, i + 1 => by
    unfold enumL
    rw [List.getElem?_cons_succ, List.getElem?_cons_succ, enumL_get r (k + 1) i]
    congr 1
    funext y
    show PyData.tuple [.int (k + 1 + (i : Int)), y] = .tuple [.int (k + ((i + 1 : Nat) : Int)), y]
    rw [show k + 1 + (i : Int) = k + ((i + 1 : Nat) : Int) by omega]
theorem enumL_len : ∀ (xs : List PyData) (k : Int), (enumL xs k).length = xs.length
  | [], k => by unfold enumL; rfl
  | x :: r, k => by unfold enumL; rw [List.length_cons, List.length_cons, enumL_len r]
theorem zipL_get : ∀ (xs ys : List PyData) (i : Nat) (z : PyData), (zipL xs ys)[i]? = some z → ∃ x y, xs[i]? = some x ∧ ys[i]? = some y ∧ z = .tuple [x, y]
  | [], ys, i, z, e => by unfold zipL at e; simp at e
  | x :: xs, [], i, z, e => by unfold zipL at e; simp at e
  | x :: xs, y :: ys, 0, z, e => by unfold zipL at e; simp at e; exact ⟨x, y, rfl, rfl, e.symm⟩
  | x :: xs, y :: ys, i + 1, z, e => by unfold zipL at e; rw [List.getElem?_cons_succ] at e; simpa using zipL_get xs ys i z e
theorem zipL_len : ∀ (xs ys : List PyData), (zipL xs ys).length = min xs.length ys.length
  | [], ys => by unfold zipL; simp
  | x :: xs, [] => by unfold zipL; simp
  | x :: xs, y :: ys => by unfold zipL; rw [List.length_cons, zipL_len xs ys, List.length_cons, List.length_cons]; omega
/-- a pair just made -/
theorem pair_new {W' : Wd} {H' H2 : Hp} {v x y : V} {a b : PyData} (h : PairY H' v H2 x y) (da : Dv W'.im H' x a) (db : Dv W'.im H' y b) :
    ∃ W2, Ext W' H' W2 H2 ∧ Dv W2.im H2 v (.tuple [a, b]) ∧ ∀ st, Gd W' st H' → Gd W2 st H2 := by
  obtain ⟨T, ob, rfl, n, nd, rfl⟩ := h
  have l : Ext W' H' W' (upd H' T (.frz ob (.tup [x, y]))) := Ext.lay n
  refine ⟨W'.addI T, l.own n, .tup (.inl rfl) (StT.new nd) ?_, fun st g => (g.lay n).own (Loose.lay g n)⟩
  exact .cons (l.dv da).own (.cons (l.dv db).own .nil)
/-- a list or a tuple as data -/
def seqP (xs : List PyData) : Bool → PyData
  | true => .tuple xs
  | false => .list xs
theorem seq_of {tp : Bool} {W' : Wd} {H' : Hp} {a : Addr} {xs : List PyData} (d : Dv W'.im H' (.ref a) (seqP xs tp)) : ∃ ws, sqB K H' a ws tp ∧ DvAll W'.im H' ws xs := by
  cases tp with
  | true =>
    cases d with
    | tup i r q => exact ⟨_, r.sq, q⟩
  | false =>
    cases d with
    | lst i r q => exact ⟨_, .inl r, q⟩
/-- a list or a tuple is one thing -/
theorem yld_enum {tp : Bool} {a : Addr} {xs : List PyData} (d0 : Dv W.im H (.ref a) (seqP xs tp)) : Yld W H (IteS K tp a) (enumL xs 0) := fun W' H' n x => by
  obtain ⟨ws, hs, q⟩ := seq_of (K := K) (x.dv d0)
  refine ⟨fun h => ⟨ws, hs, by rw [q.length, ← enumL_len xs 0]; exact h⟩, fun y e => ?_⟩
  rw [enumL_get] at e
  obtain ⟨c, ec, ey⟩ := mapS e
  subst ey
  obtain ⟨w, e1, e2⟩ := q.get ec
  refine ⟨⟨ws, w, hs, e1⟩, fun v H2 ⟨w', hy, h4⟩ => ?_⟩
  have z := h4 ws hs
  rw [e1] at z
  cases z
  rw [Int.zero_add]
  exact pair_new hy (.int _) e2
end

/-! ### targets -/
abbrev FX0 : FX := fun _ _ _ => False
theorem At.drop {α β : Type} {R : Hp → Wd → Hp → β → α → Prop} {W0 W : Wd} {H0 H : Hp} {m : M α} {st : Store} {Q : β → Hp → Prop} (h : At Fx W0 H0 R (noX m) W H st Q) : At FX0 W0 H0 R m W H st Q := ⟨h.1, h.2.1, wp_anyX (wp_noX.mp h.2.2)⟩
abbrev REnv : Hp → Wd → Hp → L2.St → Env → Prop := fun _ W H σ ρ => EnvR W H ρ σ
def Off (ns : List Nat) (σ σ' : L2.St) : Prop := σ'.length = σ.length ∧ ∀ j, j ∉ ns → σ'[j]? = σ[j]?
theorem Off.refl {ns : List Nat} {σ : L2.St} : Off ns σ σ := ⟨rfl, fun _ _ => rfl⟩
theorem Off.trans {ns ms : List Nat} {σ σ1 σ2 : L2.St} (h : Off ns σ σ1) (k : Off ms σ1 σ2) : Off (ns ++ ms) σ σ2 :=
  ⟨k.1.trans h.1, fun j hj => (k.2 j fun z => hj (List.mem_append_right _ z)).trans (h.2 j fun z => hj (List.mem_append_left _ z))⟩
theorem wipe_get (σ : L2.St) (i : Nat) : ∀ vs : List Nat, (wipe σ vs)[i]? = if i ∈ vs ∧ i < σ.length then some none else σ[i]?
  | [] => by rw [if_neg (by simp)]; rfl
  | v :: vs => by
    unfold wipe
    by_cases h : v = i
    · subst h
      by_cases hl : v < σ.length
      · rw [if_pos ⟨by simp, hl⟩, List.getElem?_set_self (by rw [wipe_length]; exact hl)]
      · rw [if_neg (fun z => hl z.2), List.getElem?_eq_none (by rw [List.length_set, wipe_length]; omega), List.getElem?_eq_none (by omega)]
    · rw [List.getElem?_set_ne h, wipe_get σ i vs]
      by_cases hm : i ∈ vs ∧ i < σ.length
      · rw [if_pos hm, if_pos ⟨List.mem_cons_of_mem _ hm.1, hm.2⟩]
      · rw [if_neg hm, if_neg (fun z => hm ⟨(List.mem_cons.mp z.1).resolve_left (Ne.symm h), z.2⟩)]
theorem wipe_off {ns vs : List Nat} {σ σ2 : L2.St} (hs : ∀ i ∈ ns, i ∈ vs) (h : Off ns (wipe σ vs) σ2) : wipe σ2 vs = wipe σ vs := by
  have hl : σ2.length = σ.length := by rw [h.1, wipe_length]
  apply List.ext_getElem?
  intro i
  rw [wipe_get, wipe_get, hl]
  by_cases hm : i ∈ vs ∧ i < σ.length
  · rw [if_pos hm, if_pos hm]
  · rw [if_neg hm, if_neg hm]
    by_cases hv : i ∈ vs
    · rw [List.getElem?_eq_none (by rw [hl]; exact Nat.le_of_not_lt fun z => hm ⟨hv, z⟩), List.getElem?_eq_none (Nat.le_of_not_lt fun z => hm ⟨hv, z⟩)]
    · rw [h.2 i (fun z => hv (hs i z)), wipe_get, if_neg (fun z => hv z.1)]
def rT (m : D → Env → M Env) (ns : List Nat) : TG := fun v σ H Q => ∃ W0 H0 W ρ st d, EnvR W H ρ σ ∧ DR H0 W H v d ∧ At FX0 W0 H0 REnv (m d ρ) W H st fun σ' H' => Off ns σ σ' → Q σ' H'
def rTs (m : List PyData → Env → M Env) (ns : List Nat) : TGs := fun vs σ H Q => ∃ W0 H0 W ρ st ds, EnvR W H ρ σ ∧ DvAll W.im H vs ds ∧ At FX0 W0 H0 REnv (m ds ρ) W H st fun σ' H' => Off ns σ σ' → Q σ' H'
theorem tg_name {i : Nat} {v : V} {σ : L2.St} {H : Hp} {Q : L2.St → Hp → Prop} (h : rT (fun d ρ => pure (ρ.set i (some (keep d)))) [i] v σ H Q) : gName i v σ H Q := by
  obtain ⟨W0, H0, W, ρ, st, d, er, r, h⟩ := h
  obtain ⟨W2, x2, g2, k2, e2, _⟩ := keep_own (W' := W) (H' := H) r h.1 h.2.1
  refine h.pure W2 H _ x2 g2 ((e2 _ _ er).set k2 i) ⟨by rw [List.length_set], fun j hj => ?_⟩
  rw [List.getElem?_set_ne (fun z => hj (by rw [z]; exact List.mem_singleton_self _))]
theorem tg_tup {K : PySem.W.Frag} {n : Nat} {m : List PyData → Env → M Env} {ns : List Nat} {v : V} {σ : L2.St} {H : Hp} {Q : L2.St → Hp → Prop} (h : rT (fun d ρ => look d >>= fun u => match u with
    | .tuple xs => do
      guardB (decide (xs.length = n))
      m xs ρ
    | _ => fail) ns v σ H Q) : gTup K n (rTs m ns) v σ H Q := by
  obtain ⟨W0, H0, W, ρ, st, d, er, r, h⟩ := h
  obtain ⟨u, hu, h⟩ := h.look r
  cases u with
  | tuple xs =>
    obtain ⟨a, vs, rfl, hr, q⟩ := hu.tup
    obtain ⟨hz, h2⟩ := h.guard
    exact ⟨a, vs, rfl, .inl hr, by rw [q.length]; exact of_decide_eq_true hz, W0, H0, W, ρ, st, xs, er, q, h2⟩
  | _ => exact h.fail.elim
theorem tg_nil {vs : List V} {σ : L2.St} {H : Hp} {Q : L2.St → Hp → Prop} {m : List PyData → Env → M Env} (e : ∀ ρ, m [] ρ = pure ρ) (f : ∀ x xs ρ, m (x :: xs) ρ = fail) (h : rTs m [] vs σ H Q) : gNil vs σ H Q := by
  obtain ⟨W0, H0, W, ρ, st, ds, er, r, h⟩ := h
  cases r with
  | nil =>
    rw [e] at h
    exact ⟨rfl, h.pure _ _ _ h.1 h.2.1 er Off.refl⟩
  | cons a b =>
    rw [f] at h
    exact h.fail.elim
theorem tg_cons {vs : List V} {σ : L2.St} {H : Hp} {Q : L2.St → Hp → Prop} {m : List PyData → Env → M Env} {m1 : D → Env → M Env} {m2 : List PyData → Env → M Env} {n1 n2 : List Nat} (e : ∀ ρ, m [] ρ = fail) (f : ∀ x xs ρ, m (x :: xs) ρ = (m1 (.dat x) ρ >>= fun ρ' => m2 xs ρ'))
    (h : rTs m (n1 ++ n2) vs σ H Q) : gCons (rT m1 n1) (rTs m2 n2) vs σ H Q := by
  obtain ⟨W0, H0, W, ρ, st, ds, er, r, h⟩ := h
  cases r with
  | nil =>
    rw [e] at h
    exact h.fail.elim
  | cons a b =>
    rw [f] at h
    refine ⟨_, _, rfl, W, H, W, ρ, st, .dat _, er, a, (At.bind (R1 := REnv) h).mono ?_⟩
    rintro σ1 H1 ⟨ρ1, W1, st1, x1, r1, h1⟩ o1
    exact ⟨W0, H0, W1, ρ1, st1, _, r1, x1.all b, h1.mono fun σ2 H2 k o2 => k (o1.trans o2)⟩
theorem tg_sub {ma mb : Env → M D} {v : V} {σ : L2.St} {H : Hp} {Q : L2.St → Hp → Prop} (h : rT (fun d ρ => do
    let p ← ma ρ
    let y ← mb ρ
    let k ← asInt y
    let z ← settle d
    let i ← refOf p
    let xs ← cellAt i
    let j ← ofO (ixPl xs.length k)
    putCell i (.lst (xs.set j z))
    pure ρ) [] v σ H Q) : gSub (rG Ef DR ma) (rG Ef DR mb) rSetL v σ H Q := by
  obtain ⟨W0, H0, W, ρ, st, d, er, r, h⟩ := h
  refine ⟨W, ρ, st, er, At.anyX ((At.bind (R1 := DR) h).mono ?_)⟩
  rintro o H1 ⟨p, W1, st1, x1, r1, h1⟩
  refine ⟨W1, ρ, st1, er.mono x1, At.anyX ((At.bind (R1 := DR) h1).mono ?_)⟩
  rintro y H2 ⟨dy, W2, st2, x2, r2, h2⟩
  obtain ⟨k, rfl, h3⟩ := h2.asInt r2
  obtain ⟨u, W3, st3, du, e3, k3, _, h4⟩ := h3.settle (r.mono (x1.trans x2))
  have e12 := (er.mono x1).mono x2
  cases p with
  | ref i =>
    obtain ⟨a, ha, rfl⟩ := r1.mono x2
    obtain ⟨a', ha', ea⟩ : ∃ a', W3.eta[i]? = some a' ∧ V.ref a = V.ref a' := k3 (V.ref a) (.ref i) ⟨a, ha, rfl⟩
    cases ea
    obtain ⟨xs, vs, hx, n, hv, q, h5⟩ := At.cellAt (show At FX0 W0 H0 REnv (cellAt i >>= _) W3 H2 st3 _ from h4) ha'
    obtain ⟨j, hj, h6⟩ := h5.ofO
    refine ⟨a, vs, k, j, rfl, rfl, hv, by rw [q.length]; exact hj, ?_⟩
    have h7 := h6.putCell (o := .lst (vs.set j v)) ha' n ⟨n, _, upd_same, DvAll.set (du.write n) j (q.write n)⟩
    exact h7.pure _ _ _ h7.1 h7.2.1 ((e3 _ _ e12).write n) Off.refl
  | _ => exact h4.2.2.elim

/-! ### list comprehensions -/
theorem wp_lc_cons {α γ δ : Type} {turn : γ → M (Option δ)} {x : γ} {r : List γ} {acc : List δ} {k : List δ → M α} {st : Store} {P : α → Store → Prop} (w : wp Xp (lcGo turn (x :: r) acc >>= k) st P) :
    wp Xp (turn x >>= fun o => (match o with
      | some y => guardB (decide (acc.length < LIM)) >>= fun _ => lcGo turn r (acc ++ [y]) >>= k
      | none => lcGo turn r acc >>= k)) st P := by
  simp only [lcGo, wp_bind] at w ⊢
  refine wp_mono w fun o s w1 => ?_
  cases o with
  | none => simp only [wp_bind]; exact w1
  | some y => simp only [wp_bind] at w1 ⊢; exact w1
theorem wp_lc_turn {α δ : Type} {hold : D → M δ} {mt : Env → M Env} {mif : Env → M Bool} {me : Env → M D} {ρ : Env} {k : Option δ → M α} {st : Store} {P : α → Store → Prop} (w : wp Xp ((do
      let ρ' ← mt ρ
      let c ← mif ρ'
      match c with
      | true => do
        let y ← me ρ'
        let z ← hold y
        pure (some z)
      | false => pure none : M (Option δ)) >>= k) st P) :
    wp Xp (mt ρ >>= fun ρ' => mif ρ' >>= fun c => (match c with
      | true => me ρ' >>= fun y => hold y >>= fun z => k (some z)
      | false => k none)) st P := by
  simp only [wp_bind] at w ⊢
  refine wp_mono w fun ρ' s w1 => wp_mono w1 fun c s' w2 => ?_
  cases c with
  | true => simp only [wp_bind] at w2 ⊢; exact w2
  | false => exact w2
theorem At.wp {α β : Type} {R : Hp → Wd → Hp → β → α → Prop} {W0 W : Wd} {H0 H : Hp} {m m' : M α} {st : Store} {Q : β → Hp → Prop} (h : At Fx W0 H0 R m W H st Q) (i : ∀ Xp P, MP.wp Xp m st P → MP.wp Xp m' st P) : At Fx W0 H0 R m' W H st Q := ⟨h.1, h.2.1, i _ _ h.2.2⟩
theorem wp_lc_noX {γ δ : Type} {t : γ → M (Option δ)} : ∀ (xs : List γ) (acc : List δ) (st : Store) (P : List δ → Store → Prop), wp Xp (lcGo (fun x => noX (t x)) xs acc) st P → wp (fun _ _ => False) (lcGo t xs acc) st P
  | [], acc, st, P, w => w
  | x :: r, acc, st, P, w => by
    simp only [lcGo, wp_bind, wp_noX] at w ⊢
    refine wp_mono w fun o s w1 => ?_
    cases o with
    | none => exact wp_lc_noX r acc s P w1
    | some y =>
      simp only [wp_bind] at w1 ⊢
      obtain ⟨hb, w2⟩ := wp_guard.mp w1
      exact wp_guard.mpr ⟨hb, wp_lc_noX r (acc ++ [y]) s P w2⟩
theorem At.lcX {α β γ δ : Type} {R : Hp → Wd → Hp → β → α → Prop} {W0 W : Wd} {H0 H : Hp} {t : γ → M (Option δ)} {xs : List γ} {acc : List δ} {g : List δ → α} {st : Store} {Q : β → Hp → Prop} (h : At Fx W0 H0 R (lcGo (fun x => noX (t x)) xs acc >>= fun ys => Pure.pure (g ys)) W H st Q) :
    At FX0 W0 H0 R (lcGo t xs acc >>= fun ys => Pure.pure (g ys)) W H st Q := ⟨h.1, h.2.1, by
  have w := h.2.2
  rw [wp_bind] at w ⊢
  exact wp_anyX (wp_lc_noX _ _ _ _ w)⟩
theorem rG_lc {Ef' : L2.St → FX} {σ : L2.St} {H : Hp} {Q : V → Hp → Prop} {mi : Env → M (List PyData)} {mt : D → Env → M Env} {mif : Env → M Bool} {me : Env → M D} {ns vs : List Nat} (hns : ∀ i ∈ ns, i ∈ vs) (h : rG Ef DR (fun ρ => do
    let xs ← mi ρ
    let ys ← lcGo (fun x => noX do
      let ρ' ← mt (.dat x) (wipeE ρ vs)
      let k ← mif ρ'
      match k with
      | true => do
        let y ← me ρ'
        let z ← settle y
        pure (some z)
      | false => pure none) xs []
    pure (.newL ys)) σ H Q) : tLc (rG Ef RI mi) (rT mt ns) (rG Ef' REq mif) (rG Ef' DR me) vs σ H Q := by
  obtain ⟨W, ρ, st, er, h⟩ := h
  refine ⟨W, ρ, st, er, (At.bind (R1 := RI) h).mono ?_⟩
  rintro J H1 ⟨xs, W1, st1, x1, y1, h0⟩
  intro A hA
  have h1 := h0.lcX
  have hA0 : H A = none := x1.fresh hA
  refine ⟨fun i m Hc => m = xs.length - i ∧ i ≤ xs.length ∧ ∃ W2 st2 acc us, Ext W1 H1 W2 Hc ∧ Hc A = some (.lst us) ∧ Loose W2 Hc A ∧ DvAll W2.im Hc us acc ∧ At FX0 W H DR (lcGo (fun x => do
      let ρ' ← mt (.dat x) (wipeE ρ vs)
      let k ← mif ρ'
      match k with
      | true => do
        let y ← me ρ'
        let z ← settle y
        pure (some z)
      | false => pure none) (xs.drop i) acc >>= fun ys => pure (.newL ys)) W2 Hc st2 Q, ?_, ?_⟩
  · exact ⟨xs.length, by simp, Nat.zero_le _, W1, st1, [], [], Ext.lay hA, upd_same, Loose.lay h1.2.1 hA, .nil, h1.1.trans (Ext.lay hA), h1.2.1.lay hA, h1.2.2⟩
  · rintro i m Hc ⟨rfl, hi, W2, st2, acc, us, x2, hus, l2, q2, h2⟩
    obtain ⟨ystop, ygo⟩ := y1 W2 Hc i x2
    by_cases hlt : i < xs.length
    · have hx : xs[i]? = some xs[i] := List.getElem?_eq_getElem hlt
      obtain ⟨go, yl⟩ := ygo _ hx
      rw [List.drop_eq_getElem_cons hlt] at h2
      have h3 := (h2.wp fun _ P w => wp_lc_cons w).wp fun _ P w => wp_lc_turn w
      refine .inr ⟨go, _, fun H' hw => ⟨xs.length - (i + 1), by omega, rfl, hlt, hw⟩, fun v H' hy => ?_⟩
      obtain ⟨W3, x3, dv, g3⟩ := yl v H' hy
      have h4 := h3.go (h3.1.trans x3) (g3 _ h3.2.1)
      refine ⟨W3, H', W3, wipeE ρ vs, st2, .dat xs[i], ((((er.mono x1).mono x2).mono x3).wipe vs), dv, (At.bind (R1 := REnv) h4).mono ?_⟩
      rintro σ4 H4 ⟨ρ4, W4, st4, x4, er4, h5⟩ off
      refine ⟨wipe_off hns off, W4, ρ4, st4, er4, At.anyX ((At.bind (R1 := REq) h5).mono ?_)⟩
      rintro c H5 ⟨c', W5, st5, x5, rfl, h6⟩
      have x35 := x3.trans (x4.trans x5)
      cases c with
      | false =>
        rw [if_neg (by decide)]
        exact ⟨W5, st5, acc, us, x2.trans x35, x35.keepL l2 hus, x35.loose l2, x35.all q2, h6⟩
      | true =>
        rw [if_pos rfl]
        refine ⟨W5, ρ4, st5, er4.mono x5, At.anyX ((At.bind (R1 := DR) h6).mono ?_)⟩
        rintro y H6 ⟨dy, W6, st6, x6, r6, h7⟩
        obtain ⟨u, W7, st7, x7, du, _, k7, h8⟩ := h7.settle' r6 (fun p n => h6.1.fresh n) x6
        obtain ⟨hz, h9⟩ := h8.guard
        have l7 := x7.loose (x35.loose l2)
        have x37 := (x35.trans x7)
        refine ⟨us, x37.keepL l2 hus, by rw [q2.length, sizeLine_eq]; exact of_decide_eq_true hz, W7, st7, acc ++ [u], us ++ [y], (x2.trans x37).writeL hA, upd_same, l7.writeL, ?_, h9.1.writeL hA0, h9.2.1.writeL l7, h9.2.2⟩
        exact DvAll.append ((x37.all q2).write l7.2.1) (.cons (du.write l7.2.1) .nil)
    · have e : i = xs.length := by omega
      subst e
      rw [List.drop_length] at h2
      have h3 : At FX0 W H DR (pure (.newL acc)) W2 Hc st2 Q := h2
      exact .inl ⟨ystop (Nat.le_refl _), h3.pure W2 Hc _ h3.1 h3.2.1 ⟨A, us, rfl, hus, l2, hA0, q2⟩⟩
end MP
end MTgt

section MSnE
set_option Elab.async false
set_option linter.all false
set_option maxRecDepth 100000
set_option autoImplicit false
set_option maxHeartbeats 4000000
/-! MSnE: the machine does at expressions what the evaluator says. -/
namespace MP
open PySem PySem.Spec PyProof.Rows L2
variable [Cla]
variable {Fx : FX} {Ef : L2.St → FX} {Xp : Exc → Store → Prop}

/-! ### methods of lists -/
section
variable {X : Cx} {σ : L2.St} {H : Hp} {Q : V → Hp → Prop}
theorem rG_app {K : PySem.W.Frag} {ma mx : Env → M D} (h : rG Ef DR (fun ρ => do
    let p ← ma ρ
    let i ← refOf p
    let _ ← cellAt i
    let y ← mx ρ
    let z ← settle y
    let xs ← cellAt i
    guardB (decide (xs.length < LIM))
    putCell i (.lst (xs ++ [z]))
    pure (.dat .none)) σ H Q) : tBM K "list" rAppend (rG Ef DR ma) (tCons (rG Ef DR mx) tNil) σ H Q := by
  obtain ⟨W, ρ, st, er, h⟩ := h
  refine ⟨W, ρ, st, er, (At.bind (R1 := DR) h).mono ?_⟩
  rintro o H1 ⟨p, W1, st1, x1, r1, h1⟩
  obtain ⟨i, a, rfl, ha, rfl, h2⟩ := h1.refOf r1
  obtain ⟨xs0, vs0, _, _, hv0, _, h2⟩ := h2.cellAt ha
  refine ⟨.inl ⟨rfl, _, .inl (.inl hv0)⟩, W1, ρ, st1, er.mono x1, (At.bind (R1 := DR) h2).mono ?_⟩
  rintro y H2 ⟨dy, W2, st2, x2, r2, h3⟩
  obtain ⟨z, W3, st3, xb, dz, _, k3, h4⟩ := h3.settle' r2 (fun p n => h2.1.fresh n) x2
  have ha3 : W3.eta[i]? = some a := xb.at ha
  obtain ⟨xs, vs, _, n, hv, q, h5⟩ := h4.cellAt ha3
  obtain ⟨hz, h6⟩ := h5.guard
  refine ⟨a, vs, y, rfl, rfl, hv, by rw [q.length, sizeLine_eq]; exact of_decide_eq_true hz, ?_⟩
  have h7 := h6.putCell (o := .lst (vs ++ [y])) ha3 n ⟨n, _, upd_same, DvAll.append (q.write n) (.cons (dz.write n) .nil)⟩
  exact h7.pure _ _ _ h7.1 h7.2.1 .non
theorem rG_pop {K : PySem.W.Frag} {ma : Env → M D} (h : rG Ef DR (fun ρ => do
    let p ← ma ρ
    let i ← refOf p
    let xs ← cellAt i
    let y ← ofO xs.getLast?
    putCell i (.lst xs.dropLast)
    pure (.dat y)) σ H Q) : tBM0 K "list" rPop (rG Ef DR ma) σ H Q := by
  obtain ⟨W, ρ, st, er, h⟩ := h
  refine ⟨W, ρ, st, er, (At.bind (R1 := DR) h).mono ?_⟩
  rintro o H1 ⟨p, W1, st1, x1, r1, h1⟩
  obtain ⟨i, a, rfl, ha, rfl, h2⟩ := h1.refOf r1
  obtain ⟨xs, vs, _, n, hv, q, h3⟩ := h2.cellAt ha
  obtain ⟨y, hy, h4⟩ := h3.ofO
  rw [List.getLast?_eq_getElem?, ← q.length] at hy
  obtain ⟨v, hv', dv⟩ := q.get hy
  refine ⟨.inl ⟨rfl, _, .inl (.inl hv)⟩, a, vs, v, rfl, rfl, hv, hv', ?_⟩
  have h7 := h4.putCell (o := .lst vs.dropLast) ha n ⟨n, _, upd_same, q.dropLast.write n⟩
  exact h7.pure _ _ _ h7.1 h7.2.1 (dv.write n)
theorem rG_popAt {K : PySem.W.Frag} {ma mx : Env → M D} (h : rG Ef DR (fun ρ => do
    let p ← ma ρ
    let i ← refOf p
    let _ ← cellAt i
    let y ← mx ρ
    let k ← asInt y
    let xs ← cellAt i
    guardB (decide (xs.length ≤ LIM))
    let j ← ofO (ixPl xs.length k)
    let z ← ofO xs[j]?
    putCell i (.lst (xs.eraseIdx j))
    pure (.dat z)) σ H Q) : tBM K "list" rPopAt (rG Ef DR ma) (tCons (rG Ef DR mx) tNil) σ H Q := by
  obtain ⟨W, ρ, st, er, h⟩ := h
  refine ⟨W, ρ, st, er, (At.bind (R1 := DR) h).mono ?_⟩
  rintro o H1 ⟨p, W1, st1, x1, r1, h1⟩
  obtain ⟨i, a, rfl, ha, rfl, h2⟩ := h1.refOf r1
  obtain ⟨xs0, vs0, _, _, hv0, _, h2⟩ := h2.cellAt ha
  refine ⟨.inl ⟨rfl, _, .inl (.inl hv0)⟩, W1, ρ, st1, er.mono x1, (At.bind (R1 := DR) h2).mono ?_⟩
  rintro y H2 ⟨dy, W2, st2, x2, r2, h3⟩
  obtain ⟨k, rfl, h4⟩ := h3.asInt r2
  have ha3 : W2.eta[i]? = some a := x2.at ha
  obtain ⟨xs, vs, _, n, hv, q, h5⟩ := h4.cellAt ha3
  obtain ⟨hlz, h6⟩ := h5.guard
  obtain ⟨j, hj, h7⟩ := h6.ofO
  obtain ⟨z, hz, h8⟩ := h7.ofO
  obtain ⟨v, hv', dv⟩ := q.get hz
  rw [ixPl_eq, ← q.length] at hj
  obtain ⟨s1, s2, s3, s4⟩ := ixN_seq hj
  have hvl : vs.length ≤ LIM := by rw [q.length]; exact of_decide_eq_true hlz
  have hlim : LIM = 16777216 := rfl
  refine ⟨a, vs, k, j, v, rfl, rfl, hv, by omega, by omega, s1, hv', ?_⟩
  have h9 := h8.putCell (o := .lst (vs.eraseIdx j)) ha3 n ⟨n, _, upd_same, (q.erase j).write n⟩
  exact h9.pure _ _ _ h9.1 h9.2.1 (dv.write n)
/-- isinstance of one class -/
theorem ty_of {K : PySem.W.Frag} {W : Wd} {v : V} {d : PyData} (h : Vw W H v d) : ∃ t : String, (TyX K H v (.type t) ∨ IsDx H v t) ∧ ∀ T : Ty, PySem.W.kitOne K (.type t) (.type (match T with
    | .int => "int"
    | .bool => "bool"
    | .str => "str"
    | .tuple => "tuple"
    | .list => "list"
    | .dict => "dict")) = some (isiV T d) := by
  cases d with
  | none => cases h.none; exact ⟨_, .inl (.base .non), fun T => by cases T <;> rfl⟩
  | bool b => cases h.bool; exact ⟨_, .inl (.base (.bl _)), fun T => by cases T <;> rfl⟩
  | int b => cases h.int; exact ⟨_, .inl (.base (.int _)), fun T => by cases T <;> rfl⟩
  | str b => cases h.str; exact ⟨_, .inl (.base (.str _)), fun T => by cases T <;> rfl⟩
  | list ds =>
    obtain ⟨a, vs, rfl, r, _⟩ := h
    refine ⟨"list", ?_, fun T => by cases T <;> rfl⟩
    rcases r with r | ⟨o, r⟩
    · exact .inl (.base (.lst r))
    · exact .inl (.base (.frz r))
  | tuple ds =>
    obtain ⟨a, vs, rfl, r, _⟩ := h.tup
    refine ⟨"tuple", ?_, fun T => by cases T <;> rfl⟩
    rcases r with r | ⟨o, r⟩
    · exact .inl (.base (.tup r))
    · exact .inl (.fTuple r)
  | dict kvs =>
    cases (show Dv W.im H v (.dict kvs) from h) with
    | dctK i r q => exact ⟨"dict", .inl (.base (.dK r)), fun T => by cases T <;> rfl⟩
    | dctT i r q => exact ⟨"dict", .inr ⟨rfl, _, _, rfl, r⟩, fun T => by cases T <;> rfl⟩
end
end MP
end MSnE

section MSnX
set_option Elab.async false
set_option linter.all false
set_option maxRecDepth 100000
set_option autoImplicit false
set_option maxHeartbeats 4000000
/-! MSnX: the machine does at expressions what the evaluator says: all of them. -/
namespace MP
open PySem PySem.Spec PyProof.Rows L2
variable [Cla]
variable {Fx : FX} {Ef : L2.St → FX} {Xp : Exc → Store → Prop}

theorem rG_eq {α β : Type} {R : Hp → Wd → Hp → β → α → Prop} {m m' : Env → M α} {σ : L2.St} {H : Hp} {Q : β → Hp → Prop} (e : ∀ ρ, m ρ = m' ρ) (h : rG Ef R m σ H Q) : rG Ef R m' σ H Q := by
  rw [show m' = m from (funext e).symm]
  exact h
theorem rG_mono {α β : Type} {R : Hp → Wd → Hp → β → α → Prop} {m : Env → M α} {σ : L2.St} {H : Hp} {Q Q' : β → Hp → Prop} (h : rG Ef R m σ H Q) (i : ∀ b H', Q b H' → Q' b H') : rG Ef R m σ H Q' := by
  obtain ⟨W, ρ, st, er, a⟩ := h
  exact ⟨W, ρ, st, er, a.mono i⟩
theorem rT_eq {m m' : D → Env → M Env} {ns ns' : List Nat} {v : V} {σ : L2.St} {H : Hp} {Q : L2.St → Hp → Prop} (e : ∀ d ρ, m d ρ = m' d ρ) (f : ns = ns') (h : rT m ns v σ H Q) : rT m' ns' v σ H Q := by
  subst f
  rw [show m' = m from (funext fun d => funext fun ρ => e d ρ).symm]
  exact h
theorem rTs_eq {m m' : List PyData → Env → M Env} {ns ns' : List Nat} {v : List V} {σ : L2.St} {H : Hp} {Q : L2.St → Hp → Prop} (e : ∀ d ρ, m d ρ = m' d ρ) (f : ns = ns') (h : rTs m ns v σ H Q) : rTs m' ns' v σ H Q := by
  subst f
  rw [show m' = m from (funext fun d => funext fun ρ => e d ρ).symm]
  exact h

/-! ### what is walked: a list or a tuple -/
def iSeq (K : PySem.W.Frag) (tl : TE) : TI := fun σ H R => tl σ H fun x H1 => ∃ a, x = .ref a ∧ ((∃ xs, SqL K H1 a xs) ∧ R (Itl K a) H1 ∨ (∃ xs, SqT K H1 a xs) ∧ R (Itt K a) H1)
theorem pi_seq {X : Cx} {tg l : Expr} {tl : TE} (hl : PE X l tl) : PI X tg l (iSeq X.K tl) := by
  refine ⟨fun pins s σ H R I h => thn (hl.run pins s σ H _ I h) fun v s1 ⟨x, H1, I1, r1, a, ex, q1⟩ => ?_⟩
  subst ex
  cases r1
  rcases q1 with ⟨⟨xs, hq⟩, q⟩ | ⟨⟨xs, hq⟩, q⟩
  · obtain ⟨its, rv, p, hz⟩ := I1.list hq
    refine wpAny_pyIter_list p.isList ⟨s1.heap.objs.size, [s1.heap.objs.size], _, _, H1, rfl, I1.kept (t' := s1.toks) fun b o e => Heap.get?_push_of_some _ e, turn_list a _, ⟨_, Heap.get?_push_size _ rfl, rfl, rfl⟩, fun b hb => ?_, q⟩
    rw [List.mem_singleton.mp hb]
    exact I1.fpOk (Nat.le_refl _) (I1.hok.fresh (Nat.le_refl _))
  · obtain ⟨its, rv, p, hz⟩ := I1.tuple hq
    refine wpAny_pyIter_tuple (show s1.heap.IsTuple a its.toArray from p) ⟨s1.heap.objs.size, [s1.heap.objs.size], _, _, H1, rfl, I1.kept (t' := s1.toks) fun b o e => Heap.get?_push_of_some _ e, turn_tuple a _, ⟨_, Heap.get?_push_size _ rfl, rfl, rfl⟩, fun b hb => ?_, q⟩
    rw [List.mem_singleton.mp hb]
    exact I1.fpOk (Nat.le_refl _) (I1.hok.fresh (Nat.le_refl _))
section
variable {σ : L2.St} {H : Hp} {Q : V → Hp → Prop}
theorem rI_val {K : PySem.W.Frag} {m : Env → M D} {R : L2.It → Hp → Prop} (h : rG Ef RI (fun ρ => do
    let x ← m ρ
    match keep x with
    | .dat (.list xs) => pure xs
    | .dat (.tuple xs) => pure xs
    | _ => fail) σ H R) : iSeq K (rG Ef DR m) σ H R := by
  obtain ⟨W, ρ, st, er, h⟩ := h
  refine ⟨W, ρ, st, er, (At.bind (R1 := DR) h).mono ?_⟩
  rintro v H1 ⟨d, W1, st1, x1, r1, h1⟩
  obtain ⟨W2, x2, g2, k2, _, _⟩ := keep_own (W' := W) (H' := H) r1 h1.1 h1.2.1
  generalize keep d = d2 at h1 k2
  cases d2 with
  | dat u =>
    cases u with
    | list xs =>
      cases (show Dv W2.im H1 v (.list xs) from k2) with
      | lst i r q => exact ⟨_, rfl, .inl ⟨⟨_, .inl r⟩, h1.pure W2 H1 _ x2 g2 (yld_list i r q)⟩⟩
    | tuple xs =>
      cases (show Dv W2.im H1 v (.tuple xs) from k2) with
      | tup i r q => exact ⟨_, rfl, .inr ⟨⟨_, r.sq⟩, h1.pure W2 H1 _ x2 g2 (yld_tup i r q)⟩⟩
    | _ => exact h1.fail.elim
  | _ => exact h1.fail.elim
theorem rI_rng1 {m : Env → M D} {R : L2.It → Hp → Prop} (h : rG Ef RI (fun ρ => do
    let x ← m ρ
    let i ← asInt x
    guardB (small i)
    pure (rngL 0 i.toNat)) σ H R) : iRng1 (tCons (rG Ef DR m) tNil) σ H R := by
  obtain ⟨W, ρ, st, er, h'⟩ := rG_then h
  refine ⟨W, ρ, st, er, h'.mono ?_⟩
  rintro v H1 ⟨W', ρ', d, W1, st1, _, x1, r1, h1⟩
  obtain ⟨i, rfl, h2⟩ := h1.asInt r1
  obtain ⟨hs, h3⟩ := h2.guard
  have hs' : -1000000 ≤ i ∧ i ≤ 1000000 := by simpa [small] using hs
  exact ⟨i, rfl, by omega, by omega, h3.pure _ _ _ h3.1 h3.2.1 (yld_rng 0 _)⟩
theorem rI_rng2 {m m2 : Env → M D} {R : L2.It → Hp → Prop} (h : rG Ef RI (fun ρ => do
    let x ← m ρ
    let y ← m2 ρ
    let i ← asInt x
    let j ← asInt y
    guardB (small i && small j)
    pure (rngL i (j - i).toNat)) σ H R) : iRng2 (tCons (rG Ef DR m) (tCons (rG Ef DR m2) tNil)) σ H R := by
  obtain ⟨W, ρ, st, er, h'⟩ := rG_two h
  refine ⟨W, ρ, st, er, h'.mono fun v H1 ⟨W1, ρ1, st1, er1, h1⟩ => ⟨W1, ρ1, st1, er1, h1.mono ?_⟩⟩
  rintro u H2 ⟨W', ρ', d, e, W2, st2, _, _, r1, r2, h2⟩
  obtain ⟨i, rfl, h3⟩ := h2.asInt r1
  obtain ⟨j, rfl, h4⟩ := h3.asInt r2
  obtain ⟨hs, h5⟩ := h4.guard
  have hs' : (-1000000 ≤ i ∧ i ≤ 1000000) ∧ (-1000000 ≤ j ∧ j ≤ 1000000) := by simpa [small] using hs
  exact ⟨i, j, rfl, ⟨by omega, by omega, by omega, by omega⟩, h5.pure _ _ _ h5.1 h5.2.1 (yld_rng i _)⟩
theorem by_len (c : Int) : ∀ (n : Nat) (lo : Int), (intsBy lo c n).length = n
  | 0, _ => rfl
  | n + 1, lo => by rw [intsBy, List.length_cons, by_len c n]
theorem by_get (c : Int) : ∀ (n : Nat) (lo : Int) (i : Nat), (intsBy lo c n)[i]? = if i < n then some (.int (lo + (i : Int) * c)) else none
  | 0, lo, i => by rw [if_neg (by omega)]; rfl
  | n + 1, lo, 0 => by
    rw [if_pos (by omega)]
    show some (PyData.int lo) = _
    congr 2
    simp
  | n + 1, lo, i + 1 => by
    rw [intsBy, List.getElem?_cons_succ, by_get c n (lo + c) i]
    by_cases h : i < n
    · rw [if_pos h, if_pos (by omega)]
      congr 2
      rw [Int.natCast_add, Int.add_mul]
      omega
    · rw [if_neg h, if_neg (by omega)]
theorem yld_rngC {W : Wd} {H : Hp} (lo c : Int) (n : Nat) : Yld W H (Itc lo c n) (intsBy lo c n) := fun W' H' i x => by
  refine ⟨fun h => by rw [by_len] at h; exact h, fun y e => ?_⟩
  rw [by_get] at e
  by_cases h : i < n
  · rw [if_pos h] at e
    cases e
    refine ⟨h, fun v H2 ⟨h1, h2⟩ => ?_⟩
    subst h1 h2
    exact ⟨W', .refl, .int _, fun _ g => g⟩
  · rw [if_neg h] at e; cases e
theorem rI_rng3 {m m2 m3 : Env → M D} {R : L2.It → Hp → Prop} (h : rG Ef RI (fun ρ => do
    let x ← m ρ
    let y ← m2 ρ
    let z ← m3 ρ
    let i ← asInt x
    let j ← asInt y
    let k ← asInt z
    guardB (small i && small j && decide (k = -1))
    pure (intsBy i (-1) (i - j).toNat)) σ H R) : iRng3 (tCons (rG Ef DR m) (tCons (rG Ef DR m2) (tCons (rG Ef DR m3) tNil))) σ H R := by
  obtain ⟨W, ρ, st, er, h⟩ := h
  refine ⟨W, ρ, st, er, (At.bind (R1 := DR) h).mono ?_⟩
  rintro v H1 ⟨d, W1, st1, x1, r1, h1⟩
  refine ⟨W1, ρ, st1, er.mono x1, (At.bind (R1 := DR) h1).mono ?_⟩
  rintro u H2 ⟨e, W2, st2, x2, r2, h2⟩
  refine ⟨W2, ρ, st2, (er.mono x1).mono x2, (At.bind (R1 := DR) h2).mono ?_⟩
  rintro t H3 ⟨g, W3, st3, x3, r3, h3⟩
  obtain ⟨i, rfl, h4⟩ := h3.asInt (r1.mono (x2.trans x3))
  obtain ⟨j, rfl, h5⟩ := h4.asInt ((r2.base fun p n => x1.fresh n).mono x3)
  obtain ⟨k, rfl, h6⟩ := h5.asInt (r3.base fun p n => (x1.trans x2).fresh n)
  obtain ⟨hs, h7⟩ := h6.guard
  have hs' : ((-1000000 ≤ i ∧ i ≤ 1000000) ∧ (-1000000 ≤ j ∧ j ≤ 1000000)) ∧ k = -1 := by simpa [small] using hs
  obtain ⟨hs1, rfl⟩ := hs'
  exact ⟨i, j, -1, (i - j).toNat, rfl, RgC.neg (by omega) (by omega) (by omega) (by omega), h7.pure _ _ _ h7.1 h7.2.1 (yld_rngC i (-1) _)⟩
theorem rI_enum {K : PySem.W.Frag} {m : Env → M D} {R : L2.It → Hp → Prop} (h : rG Ef RI (fun ρ => do
    let x ← m ρ
    match keep x with
    | .dat (.list xs) => pure (enumL xs 0)
    | .dat (.tuple xs) => pure (enumL xs 0)
    | _ => fail) σ H R) : iEnumA K (tCons (rG Ef DR m) tNil) σ H R := by
  obtain ⟨W, ρ, st, er, h⟩ := h
  refine ⟨W, ρ, st, er, (At.bind (R1 := DR) h).mono ?_⟩
  rintro v H1 ⟨d, W1, st1, x1, r1, h1⟩
  obtain ⟨W2, x2, g2, k2, _, _⟩ := keep_own (W' := W) (H' := H) r1 h1.1 h1.2.1
  generalize keep d = d2 at h1 k2
  cases d2 with
  | dat u =>
    cases u with
    | list xs =>
      cases (show Dv W2.im H1 v (.list xs) from k2) with
      | lst i r q => exact ⟨false, _, _, rfl, .inl r, h1.pure W2 H1 _ x2 g2 (yld_enum (tp := false) (.lst i r q))⟩
    | tuple xs =>
      cases (show Dv W2.im H1 v (.tuple xs) from k2) with
      | tup i r q => exact ⟨true, _, _, rfl, r.sq, h1.pure W2 H1 _ x2 g2 (yld_enum (tp := true) (.tup i r q))⟩
    | _ => exact h1.fail.elim
  | _ => exact h1.fail.elim
/-! ### zip -/
theorem row_new2 {W' : Wd} {H' H2 : Hp} {v x y : V} {a b : PyData} (h : RowY H' v H2 [x, y]) (da : Dv W'.im H' x a) (db : Dv W'.im H' y b) :
    ∃ W2, Ext W' H' W2 H2 ∧ Dv W2.im H2 v (.tuple [a, b]) ∧ ∀ st, Gd W' st H' → Gd W2 st H2 := by
  obtain ⟨T, ob, rfl, n, nd, rfl⟩ := h
  have l : Ext W' H' W' (upd H' T (.frz ob (.tup [x, y]))) := Ext.lay n
  refine ⟨W'.addI T, l.own n, .tup (.inl rfl) (StT.new nd) ?_, fun st g => (g.lay n).own (Loose.lay g n)⟩
  exact .cons (l.dv da).own (.cons (l.dv db).own .nil)
theorem row_new3 {W' : Wd} {H' H2 : Hp} {v x y z : V} {a b c : PyData} (h : RowY H' v H2 [x, y, z]) (da : Dv W'.im H' x a) (db : Dv W'.im H' y b) (dc : Dv W'.im H' z c) :
    ∃ W2, Ext W' H' W2 H2 ∧ Dv W2.im H2 v (.tuple [a, b, c]) ∧ ∀ st, Gd W' st H' → Gd W2 st H2 := by
  obtain ⟨T, ob, rfl, n, nd, rfl⟩ := h
  have l : Ext W' H' W' (upd H' T (.frz ob (.tup [x, y, z]))) := Ext.lay n
  refine ⟨W'.addI T, l.own n, .tup (.inl rfl) (StT.new nd) ?_, fun st g => (g.lay n).own (Loose.lay g n)⟩
  exact .cons (l.dv da).own (.cons (l.dv db).own (.cons (l.dv dc).own .nil))
theorem zip3L_get : ∀ (xs ys zs : List PyData) (i : Nat) (t : PyData), (zip3L xs ys zs)[i]? = some t → ∃ x y z, xs[i]? = some x ∧ ys[i]? = some y ∧ zs[i]? = some z ∧ t = .tuple [x, y, z]
  | [], ys, zs, i, t, e => by unfold zip3L at e; simp at e
  | x :: xs, [], zs, i, t, e => by unfold zip3L at e; simp at e
  | x :: xs, y :: ys, [], i, t, e => by unfold zip3L at e; simp at e
  | x :: xs, y :: ys, z :: zs, 0, t, e => by unfold zip3L at e; simp at e; exact ⟨x, y, z, rfl, rfl, rfl, e.symm⟩
  | x :: xs, y :: ys, z :: zs, i + 1, t, e => by unfold zip3L at e; rw [List.getElem?_cons_succ] at e; simpa using zip3L_get xs ys zs i t e
theorem zip3L_len : ∀ (xs ys zs : List PyData), (zip3L xs ys zs).length = min xs.length (min ys.length zs.length)
  | [], ys, zs => by unfold zip3L; simp
  | x :: xs, [], zs => by unfold zip3L; simp
  | x :: xs, y :: ys, [] => by unfold zip3L; simp
  | x :: xs, y :: ys, z :: zs => by unfold zip3L; rw [List.length_cons, zip3L_len xs ys zs, List.length_cons, List.length_cons, List.length_cons]; omega
section
variable {W : Wd} {H : Hp} {K : PySem.W.Frag}
theorem yld_zipM2 {t1 t2 : Bool} {a b : Addr} {xs ys : List PyData} (d0 : Dv W.im H (.ref a) (seqP xs t1)) (d1 : Dv W.im H (.ref b) (seqP ys t2)) : Yld W H (ItzM2 K t1 t2 a b) (zipL xs ys) := fun W' H' n x => by
  obtain ⟨ws, hs, q⟩ := seq_of (K := K) (x.dv d0)
  obtain ⟨zs, hs2, q2⟩ := seq_of (K := K) (x.dv d1)
  refine ⟨fun h => ⟨ws, zs, hs, hs2, by rw [q.length, q2.length]; rw [zipL_len] at h; omega⟩, fun y e => ?_⟩
  obtain ⟨x1, y1, f1, f2, rfl⟩ := zipL_get _ _ _ _ e
  obtain ⟨w, e1, e2⟩ := q.get f1
  obtain ⟨u, e3, e4⟩ := q2.get f2
  refine ⟨⟨ws, zs, w, u, hs, hs2, e1, e3⟩, fun v H2 ⟨w', u', hy, h4, h5⟩ => ?_⟩
  have z := h4 ws hs
  rw [e1] at z
  cases z
  have z := h5 zs hs2
  rw [e3] at z
  cases z
  exact row_new2 hy e2 e4
theorem yld_zipM3 {t1 t2 t3 : Bool} {a b c : Addr} {xs ys zs : List PyData} (d0 : Dv W.im H (.ref a) (seqP xs t1)) (d1 : Dv W.im H (.ref b) (seqP ys t2)) (d2 : Dv W.im H (.ref c) (seqP zs t3)) : Yld W H (ItzM3 K t1 t2 t3 a b c) (zip3L xs ys zs) := fun W' H' n x => by
  obtain ⟨ws, hs, q⟩ := seq_of (K := K) (x.dv d0)
  obtain ⟨us, hs2, q2⟩ := seq_of (K := K) (x.dv d1)
  obtain ⟨ts, hs3, q3⟩ := seq_of (K := K) (x.dv d2)
  refine ⟨fun h => ⟨ws, us, ts, hs, hs2, hs3, by rw [q.length, q2.length, q3.length]; rw [zip3L_len] at h; omega⟩, fun y e => ?_⟩
  obtain ⟨x1, y1, z1, f1, f2, f3, rfl⟩ := zip3L_get _ _ _ _ _ e
  obtain ⟨w, e1, e2⟩ := q.get f1
  obtain ⟨u, e3, e4⟩ := q2.get f2
  obtain ⟨t, e5, e6⟩ := q3.get f3
  refine ⟨⟨ws, us, ts, w, u, t, hs, hs2, hs3, e1, e3, e5⟩, fun v H2 ⟨w', u', t', hy, h4, h5, h6⟩ => ?_⟩
  have z := h4 ws hs
  rw [e1] at z
  cases z
  have z := h5 us hs2
  rw [e3] at z
  cases z
  have z := h6 ts hs3
  rw [e5] at z
  cases z
  exact row_new3 hy e2 e4 e6
/-- what may be walked in a zip -/
theorem seqZ_of {v : V} {d : D} {xs : List PyData} (r : DE W H v d) (e : seqZ d = some xs) : ∃ a tp ws, v = .ref a ∧ Dv W.im H (.ref a) (seqP xs tp) ∧ sqB K H a ws tp := by
  cases d with
  | dat u =>
    cases u with
    | list x =>
      cases e
      cases (show Dv W.im H v (.list _) from r) with
      | lst j r2 q => exact ⟨_, false, _, rfl, .lst j r2 q, .inl r2⟩
    | tuple x =>
      cases e
      cases (show Dv W.im H v (.tuple _) from r) with
      | tup j r2 q => exact ⟨_, true, _, rfl, .tup j r2 q, r2.sq⟩
    | _ => cases e
  | _ => cases e
end
theorem rI_zip {K : PySem.W.Frag} {m : Env → M (List D)} {R : L2.It → Hp → Prop} (h : rG Ef RI (fun ρ => do
    let xs ← m ρ
    ofO (zipD xs)) σ H R) : iZipM2 K (rG Ef RAs m) σ H R := by
  obtain ⟨W, ρ, st, er, h⟩ := h
  refine ⟨W, ρ, st, er, (At.bind (R1 := RAs) h).mono ?_⟩
  rintro vs H1 ⟨ds, W1, st1, x1, r1, h1⟩
  replace r1 : Paired (DE W1 H1) vs ds := r1
  obtain ⟨l, hl, h2⟩ := h1.toBind.ofO
  unfold zipD at hl
  split at hl
  · rename_i a b
    split at hl
    · rename_i x y ex ey
      cases hl
      cases r1 with
      | cons ra r1 =>
        cases r1 with
        | cons rb r1 =>
          cases r1
          obtain ⟨p, t1, w1, rfl, d1, q1⟩ := seqZ_of (K := K) ra ex
          obtain ⟨q, t2, w2, rfl, d2, q2⟩ := seqZ_of (K := K) rb ey
          exact ⟨t1, t2, p, q, w1, w2, rfl, q1, q2, h2.pure W1 H1 _ h2.1 h2.2.1 (yld_zipM2 d1 d2)⟩
    · cases hl
  · cases hl
theorem rI_zip3 {K : PySem.W.Frag} {m : Env → M (List D)} {R : L2.It → Hp → Prop} (h : rG Ef RI (fun ρ => do
    let xs ← m ρ
    ofO (zipD3 xs)) σ H R) : iZipM3 K (rG Ef RAs m) σ H R := by
  obtain ⟨W, ρ, st, er, h⟩ := h
  refine ⟨W, ρ, st, er, (At.bind (R1 := RAs) h).mono ?_⟩
  rintro vs H1 ⟨ds, W1, st1, x1, r1, h1⟩
  replace r1 : Paired (DE W1 H1) vs ds := r1
  obtain ⟨l, hl, h2⟩ := h1.toBind.ofO
  unfold zipD3 at hl
  split at hl
  · rename_i a b c
    split at hl
    · rename_i x y z ex ey ez
      cases hl
      cases r1 with
      | cons ra r1 =>
        cases r1 with
        | cons rb r1 =>
          cases r1 with
          | cons rc r1 =>
            cases r1
            obtain ⟨p, t1, w1, rfl, d1, q1⟩ := seqZ_of (K := K) ra ex
            obtain ⟨q, t2, w2, rfl, d2, q2⟩ := seqZ_of (K := K) rb ey
            obtain ⟨r, t3, w3, rfl, d3, q3⟩ := seqZ_of (K := K) rc ez
            exact ⟨t1, t2, t3, p, q, r, w1, w2, w3, rfl, q1, q2, q3, h2.pure W1 H1 _ h2.1 h2.2.1 (yld_zipM3 d1 d2 d3)⟩
    · cases hl
  · cases hl
end
end MP
end MSnX

section MIdx
set_option Elab.async false
set_option linter.all false
set_option maxRecDepth 100000
set_option autoImplicit false
set_option maxHeartbeats 4000000
/-! MIdx: the first place of an equal one, in lists and in tuples. -/
namespace MP
open PySem PySem.Spec PyProof.Rows L2
variable [Cla]
section
variable {X : Cx}
def rIxD (K : PySem.W.Frag) (tp : Bool) : V → List V → Hp → VK → Prop := fun x xs H Q => ∃ (a : Addr) (y : V) (d : PyData) (ds : List PyData) (vs : List V) (j : Nat), x = V.ref a ∧ xs = [y] ∧ sqB K H a vs tp ∧ DpAll K H vs ds ∧ Dp K H y d ∧
  shalAll 60 ds = true ∧ shal 60 d = true ∧ ds.findIdx? (fun z => PyData.eqv z d) = some j ∧ Q (.int (j : Nat)) H
theorem ix_at {h : Heap} {its : List Value} {ds : List PyData} (hmap : its.map (SeqAt.readOf h) = ds) {m : Nat} (hm : m < its.toArray.size) (hd : m < ds.length) : SeqAt.readOf h its.toArray[m] = ds[m] := by
  subst hmap
  simp
theorem mt_ixL (hu : X.A.units + 64 < cLine) : MtR X "list.index" (rIxD X.K false) := by
  intro pins s σ H x xs v us Q I rx rxs h
  obtain ⟨a, y, d, ds, vs, j, rfl, rfl, hs, ha, hy, sl, sd, hj, q⟩ := h
  cases rx
  cases rxs with
  | cons ry rt =>
    rename_i uy ut
    cases rt
    obtain ⟨bs, r1⟩ := Dp.reads I d y uy hy ry
    have p1 := shal_plain _ _ sd
    have p2 := shalAll_plain _ _ sl
    have q1 := shal_depth _ _ sd
    have hroom : X.A.units + 1 + min (PyData.depthAll ds) d.depth < cLine := by omega
    obtain ⟨its, rv, ⟨⟨cls, dd, data, sls⟩, n, ho, hc, hdn, hdt⟩, hlen⟩ := I.list hs
    simp only at hc hdt
    subst hc hdt
    obtain ⟨as, h4⟩ := Dp.readsAll I ds _ its ha rv
    have hn : its.length = ds.length := SeqAt.ReadsAll.length ds its as h4
    have hmap : its.map (SeqAt.readOf s.heap) = ds := SeqAt.readsAll_map_plain ds its as p2 h4
    have hvl := rv.length
    have hsl := sizeLine_eq
    obtain ⟨hjd, hjp, hno⟩ := List.findIdx?_eq_some_iff_getElem.mp hj
    have hjl : j < its.length := by omega
    have hj' : j < its.toArray.size := by simpa using hjl
    refine call_meets PySem.F.slot_list_index ⟨_, ho, rfl⟩ PySem.F.entry_list_index (PySem.F.args_list_index_2 _ _)
      (SeqAt.list_indexAt a its.toArray n dd sls uy (fun u => PyData.eqv (SeqAt.readOf s.heap u) d) j hj' (by omega) ?_ ?_) ⟨ho, SeqAt.items_plain (vs := its.toArray) (show ReadsAll s.heap its.toArray.toList ds as from h4) r1 p2 p1 hroom, ?_⟩
    · show PyData.eqv (SeqAt.readOf s.heap its.toArray[j]) d = true
      rw [ix_at hmap hj' hjd]
      exact hjp
    · intro m hm hmj
      have hmd : m < ds.length := by omega
      show PyData.eqv (SeqAt.readOf s.heap its.toArray[m]) d = false
      rw [ix_at hmap hm hmd]
      have := hno m hmj
      simpa using this
    · exact ⟨.int (j : Nat), H, I.tok _, ⟨_, rfl⟩, q⟩
theorem mt_ixT (hu : X.A.units + 64 < cLine) : MtR X "tuple.index" (rIxD X.K true) := by
  intro pins s σ H x xs v us Q I rx rxs h
  obtain ⟨a, y, d, ds, vs, j, rfl, rfl, hs, ha, hy, sl, sd, hj, q⟩ := h
  cases rx
  cases rxs with
  | cons ry rt =>
    rename_i uy ut
    cases rt
    obtain ⟨bs, r1⟩ := Dp.reads I d y uy hy ry
    have p1 := shal_plain _ _ sd
    have p2 := shalAll_plain _ _ sl
    have q1 := shal_depth _ _ sd
    have hroom : X.A.units + 1 + min (PyData.depthAll ds) d.depth < cLine := by omega
    obtain ⟨its, rv, ⟨⟨cls, dd, data, sls⟩, ho, hc, n, hdt⟩, hlen⟩ := I.tuple hs
    simp only at hc hdt
    subst hc hdt
    obtain ⟨as, h4⟩ := Dp.readsAll I ds _ its ha rv
    have hn : its.length = ds.length := SeqAt.ReadsAll.length ds its as h4
    have hmap : its.map (SeqAt.readOf s.heap) = ds := SeqAt.readsAll_map_plain ds its as p2 h4
    have hvl := rv.length
    have hsl := sizeLine_eq
    obtain ⟨hjd, hjp, hno⟩ := List.findIdx?_eq_some_iff_getElem.mp hj
    have hjl : j < its.length := by omega
    have hj' : j < its.toArray.size := by simpa using hjl
    refine call_meets PySem.F.slot_tuple_index ⟨_, ho, rfl⟩ PySem.F.entry_tuple_index (PySem.F.args_tuple_index_2 _ _)
      (TI.tuple_indexAt a its.toArray n dd sls uy (fun u => PyData.eqv (SeqAt.readOf s.heap u) d) j hj' ?_ ?_) ⟨ho, SeqAt.items_plain (vs := its.toArray) (show ReadsAll s.heap its.toArray.toList ds as from h4) r1 p2 p1 hroom, ?_⟩
    · show PyData.eqv (SeqAt.readOf s.heap its.toArray[j]) d = true
      rw [ix_at hmap hj' hjd]
      exact hjp
    · intro m hm hmj
      have hmd : m < ds.length := by omega
      show PyData.eqv (SeqAt.readOf s.heap its.toArray[m]) d = false
      rw [ix_at hmap hm hmd]
      have := hno m hmj
      simpa using this
    · exact ⟨.int (j : Nat), H, I.tok _, ⟨_, rfl⟩, q⟩
end
theorem PE.or {X : Cx} {e : Expr} {t t' : TE} (h : PE X e t) (h' : PE X e t') : PE X e (fun σ H Q => t σ H Q ∨ t' σ H Q) :=
  ⟨fun pins s σ H Q I w => w.elim (h.run pins s σ H Q I) (h'.run pins s σ H Q I)⟩
/-- a method of a tuple of the run's own making -/
def tBMT (r : V → List V → Hp → VK → Prop) (to : TE) (t : TA) : TE := fun σ H Q => to σ H fun x H1 => (∃ a vs, x = .ref a ∧ StT H1 a vs) ∧ t σ H1 fun xs H2 => r x xs H2 Q
theorem StT.ty {X : Cx} {pins : List (Addr × Obj)} {σ : L2.St} {H : Hp} {s : Shared} (I : Inv X pins σ H s) {a : Addr} {vs : List V} (h : StT H a vs) : s.TypeIs (.ref a) "tuple" ∧ ∀ b, Value.ref a = .ref b → ∃ ob, s.heap.get? b = some ob ∧ ob.dict = none := by
  obtain ⟨o, e, d⟩ := h
  obtain ⟨h1, _, us, _, o2, h2, h3, _⟩ := (show ObjOk X.prog X.w H s.heap a (.frz o (.tup vs)) from I.hok a _ e)
  exact ⟨⟨o2, h2, h3⟩, fun b z => by cases z; exact ⟨o, h1, d⟩⟩
section
variable {X : Cx} {o e : Expr} {es : List Expr} {to : TE} {t : TA} {name : Str} {apos cpos : Pos} {id : String} {r : V → List V → Hp → VK → Prop}
theorem pe_bmT (slot : Slot "tuple" name id) (hty : typeOf (.builtin id) = pure (.type "method_descriptor")) (hm : MtR X id r) (ho : PE X o to) (ha : PA X (e :: es) t)
    (hbase : attributeBase o name X.env (eval o X.env) = eval o X.env)
    (hfew : ((backTo cpos (starEach (e :: es) X.env)).all (fun x => !x.1) && (backToKw cpos (keywordEach [] X.env)).all (fun x => x.1.isSome) && decide ((e :: es).length + ([] : List Keyword).length + (if ([] : List Keyword).isEmpty then 0 else 1) < 30)) = true)
    (hline : (apos.endLine == cpos.line) = true) (hs : starEach (e :: es) X.env = (false, eval e X.env) :: starEach es X.env) (hplain : (backTo cpos (starEach es X.env)).any (·.1) = false) :
    PE X (.Call (.Attribute o name apos) (e :: es) [] cpos) (tBMT r to t) := by
  constructor
  intro pins s σ H Q I w
  refine wpAny_Call_method_late hbase hfew hline rfl (thn (ho.run pins s σ H _ I w) ?_)
  rintro v s1 ⟨x, H1, I1, r1, ⟨a, vs, rfl, st⟩, q1⟩
  cases r1
  obtain ⟨h1, h2⟩ := st.ty I1
  refine ⟨"tuple", id, PySem.F.plainAttrs_tuple, slot, hty, h1, h2, ?_⟩
  have hA := ha.run cpos pins s1 σ H1 _ I1 q1
  rw [hs] at hA ⊢
  refine Calls.callWith_builtin ?_ (Calls.evalArgs_plain (thn hA ?_))
  · show (false || (backTo cpos (starEach es X.env)).any (·.1)) = false
    rw [hplain] <;> rfl
  · rintro us s2 ⟨xs, H2, I2, r2, q2⟩
    exact hm pins s2 σ H2 (.ref a) xs (.ref a) us Q I2 rfl r2 q2
end
def tIx (K : PySem.W.Frag) (ta tx : TE) : TE := fun σ H Q => tBM K "list" (rIxD K false) ta (tCons tx tNil) σ H Q ∨ tBMT (rIxD K true) ta (tCons tx tNil) σ H Q
section
variable {Ef : L2.St → FX} {σ : L2.St} {H : Hp} {Q : V → Hp → Prop}
def isTup : D → Bool
  | .dat (.tuple _) => true
  | _ => false
theorem wp_part {α : Type} {Xp : Exc → Store → Prop} {m : M D} {k : D → M α} {st : Store} {P : α → Store → Prop} (h : wp Xp (m >>= k) st P) :
    wp Xp (m >>= fun d => if isTup d then fail else k d) st P ∨ wp Xp (m >>= fun d => if isTup d then k d else fail) st P := by
  rw [wp_bind] at h
  rw [wp_bind, wp_bind]
  unfold wp at h ⊢
  cases e : m st with
  | ok d s =>
    rw [e] at h
    dsimp only at h ⊢
    cases e2 : isTup d
    · left
      simpa [e2] using h
    · right
      simpa [e2] using h
  | exc x s =>
    rw [e] at h
    exact .inl h
  | no =>
    rw [e] at h
    exact h.elim
theorem ixV_some {u v : PyData} {j : Nat} (h : ixV u v = some j) : ∃ tp xs, u = seqP xs tp ∧ shal 60 v = true ∧ shalAll 60 xs = true ∧ xs.findIdx? (fun z => PyData.eqv z v) = some j := by
  have key : ∀ {xs : List PyData}, (if shal 60 v && shalAll 60 xs then xs.findIdx? fun z => PyData.eqv z v else none) = some j → shal 60 v = true ∧ shalAll 60 xs = true ∧ xs.findIdx? (fun z => PyData.eqv z v) = some j := fun {xs} h => by
    obtain ⟨hs, h⟩ := ifS h
    rw [Bool.and_eq_true] at hs
    exact ⟨hs.1, hs.2, h⟩
  cases u with
  | list xs => exact ⟨false, xs, rfl, key h⟩
  | tuple xs => exact ⟨true, xs, rfl, key h⟩
  | _ => cases h
theorem rG_index {K : PySem.W.Frag} {ma mx : Env → M D} (h : rG Ef DR (fun ρ => do
    let x ← ma ρ
    let u ← ofO (seqD x)
    let y ← mx ρ
    let v ← look y
    ofO ((ixV u v).map fun j => .dat (.int (j : Nat)))) σ H Q) : tIx K (rG Ef DR ma) (rG Ef DR mx) σ H Q := by
  obtain ⟨W, ρ, st, er, x, g, w⟩ := h
  rcases wp_part w with w | w
  · refine .inl ⟨W, ρ, st, er, (At.bind (R1 := DR) ⟨x, g, w⟩).mono ?_⟩
    rintro o H1 ⟨p, W1, st1, x1, r1, h1⟩
    cases e : isTup p
    · rw [e] at h1
      obtain ⟨p', hp, h2⟩ := At.ofO (show At _ _ _ _ (ofO (seqD p) >>= _) _ _ _ _ from h1)
      cases p with
      | dat d =>
        cases d with
        | list xs =>
          cases hp
          cases (show Dv W1.im H1 o (.list xs) from r1) with
          | lst i r q =>
            refine ⟨.inl ⟨rfl, _, .inl r⟩, W1, ρ, st1, er.mono x1, (At.bind (R1 := DR) h2).mono ?_⟩
            rintro y H2 ⟨dy, W2, st2, x2, r2, h3⟩
            obtain ⟨v, hv, h4⟩ := h3.look r2
            obtain ⟨d, hd, h6⟩ := h4.ofO'
            obtain ⟨j, hj, rfl⟩ := Option.map_eq_some_iff.mp hd
            obtain ⟨tp, ys, es, s1, s2, hj⟩ := ixV_some hj
            cases tp with
            | true => cases es
            | false =>
              cases es
              have q2 := x2.all q
              have r3 : Rd H2 _ (.lst _) := r.elim (fun z => .inl (x2.frm _ _ z (.inr i))) fun ⟨o, z⟩ => .inr ⟨o, x2.frm _ _ z (.inr i)⟩
              exact ⟨_, y, v, xs, _, j, rfl, rfl, .inl r3, q2.dp K (shalAll_plain _ _ s2), hv.dp K (shal_plain _ _ s1), s2, s1, hj, h6.pure _ _ _ h6.1 h6.2.1 (.int _)⟩
        | tuple xs => exact nomatch e
        | _ => exact nomatch hp
      | _ => exact nomatch hp
    · rw [e] at h1
      exact (show At _ _ _ _ fail _ _ _ _ from h1).fail.elim
  · refine .inr ⟨W, ρ, st, er, (At.bind (R1 := DR) ⟨x, g, w⟩).mono ?_⟩
    rintro o H1 ⟨p, W1, st1, x1, r1, h1⟩
    cases e : isTup p
    · rw [e] at h1
      exact (show At _ _ _ _ fail _ _ _ _ from h1).fail.elim
    · rw [e] at h1
      obtain ⟨p', hp, h2⟩ := At.ofO (show At _ _ _ _ (ofO (seqD p) >>= _) _ _ _ _ from h1)
      cases p with
      | dat d =>
        cases d with
        | tuple xs =>
          cases hp
          cases (show Dv W1.im H1 o (.tuple xs) from r1) with
          | tup i r q =>
            refine ⟨⟨_, _, rfl, r⟩, W1, ρ, st1, er.mono x1, (At.bind (R1 := DR) h2).mono ?_⟩
            rintro y H2 ⟨dy, W2, st2, x2, r2, h3⟩
            obtain ⟨v, hv, h4⟩ := h3.look r2
            obtain ⟨d, hd, h6⟩ := h4.ofO'
            obtain ⟨j, hj, rfl⟩ := Option.map_eq_some_iff.mp hd
            obtain ⟨tp, ys, es, s1, s2, hj⟩ := ixV_some hj
            cases tp with
            | false => cases es
            | true =>
              cases es
              have q2 := x2.all q
              have r3 : StT H2 _ _ := r.mono fun o z => x2.frm _ _ z (.inr i)
              exact ⟨_, y, v, xs, _, j, rfl, rfl, r3.sq, q2.dp K (shalAll_plain _ _ s2), hv.dp K (shal_plain _ _ s1), s2, s1, hj, h6.pure _ _ _ h6.1 h6.2.1 (.int _)⟩
        | _ => exact nomatch e
      | _ => exact nomatch e
end
end MP
end MIdx

section MCnt
set_option Elab.async false
set_option linter.all false
set_option maxRecDepth 100000
set_option autoImplicit false
set_option maxHeartbeats 4000000
/-! MCnt: how many equal ones, in lists and in tuples; list.insert. -/
namespace MP
open PySem PySem.Spec PyProof.Rows L2
variable [Cla]
section
variable {X : Cx}
def rCtD (K : PySem.W.Frag) (tp : Bool) : V → List V → Hp → VK → Prop := fun x xs H Q => ∃ (a : Addr) (y : V) (d : PyData) (ds : List PyData) (vs : List V), x = V.ref a ∧ xs = [y] ∧ sqB K H a vs tp ∧ DpAll K H vs ds ∧ Dp K H y d ∧
  shalAll 60 ds = true ∧ shal 60 d = true ∧ Q (.int ((ds.countP fun z => PyData.eqv z d : Nat) : Int)) H
theorem cnt_map {h : Heap} {its : List Value} {ds : List PyData} {p : PyData → Bool} (hmap : its.map (SeqAt.readOf h) = ds) : its.toArray.toList.countP (fun u => p (SeqAt.readOf h u)) = ds.countP p := by
  subst hmap
  rw [List.countP_map]
  rfl
theorem mt_cntL (hu : X.A.units + 64 < cLine) : MtR X "list.count" (rCtD X.K false) := by
  intro pins s σ H x xs v us Q I rx rxs h
  obtain ⟨a, y, d, ds, vs, rfl, rfl, hs, ha, hy, sl, sd, q⟩ := h
  cases rx
  cases rxs with
  | cons ry rt =>
    rename_i uy ut
    cases rt
    obtain ⟨bs, r1⟩ := Dp.reads I d y uy hy ry
    have p1 := shal_plain _ _ sd
    have p2 := shalAll_plain _ _ sl
    have q1 := shal_depth _ _ sd
    have hroom : X.A.units + 1 + min (PyData.depthAll ds) d.depth < cLine := by omega
    obtain ⟨its, rv, ⟨⟨cls, dd, data, sls⟩, n, ho, hc, hdn, hdt⟩, hlen⟩ := I.list hs
    simp only at hc hdt
    subst hc hdt
    obtain ⟨as, h4⟩ := Dp.readsAll I ds _ its ha rv
    have hmap : its.map (SeqAt.readOf s.heap) = ds := SeqAt.readsAll_map_plain ds its as p2 h4
    refine call_meets PySem.F.slot_list_count ⟨_, ho, rfl⟩ PySem.F.entry_list_count (PySem.F.args_list_count_2 _ _)
      (SeqAt.list_countAt a its.toArray n dd sls uy (fun u => PyData.eqv (SeqAt.readOf s.heap u) d)) ⟨ho, SeqAt.items_plain (vs := its.toArray) (show ReadsAll s.heap its.toArray.toList ds as from h4) r1 p2 p1 hroom, ?_⟩
    refine ⟨.int ((ds.countP fun z => PyData.eqv z d : Nat) : Int), H, I.tok _, ⟨s.toks, ?_⟩, q⟩
    have e := cnt_map (p := fun z => PyData.eqv z d) hmap
    rw [← e]
theorem mt_cntT (hu : X.A.units + 64 < cLine) : MtR X "tuple.count" (rCtD X.K true) := by
  intro pins s σ H x xs v us Q I rx rxs h
  obtain ⟨a, y, d, ds, vs, rfl, rfl, hs, ha, hy, sl, sd, q⟩ := h
  cases rx
  cases rxs with
  | cons ry rt =>
    rename_i uy ut
    cases rt
    obtain ⟨bs, r1⟩ := Dp.reads I d y uy hy ry
    have p1 := shal_plain _ _ sd
    have p2 := shalAll_plain _ _ sl
    have q1 := shal_depth _ _ sd
    have hroom : X.A.units + 1 + min (PyData.depthAll ds) d.depth < cLine := by omega
    obtain ⟨its, rv, ⟨⟨cls, dd, data, sls⟩, ho, hc, n, hdt⟩, hlen⟩ := I.tuple hs
    simp only at hc hdt
    subst hc hdt
    obtain ⟨as, h4⟩ := Dp.readsAll I ds _ its ha rv
    have hmap : its.map (SeqAt.readOf s.heap) = ds := SeqAt.readsAll_map_plain ds its as p2 h4
    refine call_meets PySem.F.slot_tuple_count ⟨_, ho, rfl⟩ PySem.F.entry_tuple_count (PySem.F.args_tuple_count_2 _ _)
      (SeqAt.tuple_countAt a its.toArray n dd sls uy (fun u => PyData.eqv (SeqAt.readOf s.heap u) d)) ⟨ho, SeqAt.items_plain (vs := its.toArray) (show ReadsAll s.heap its.toArray.toList ds as from h4) r1 p2 p1 hroom, ?_⟩
    refine ⟨.int ((ds.countP fun z => PyData.eqv z d : Nat) : Int), H, I.tok _, ⟨s.toks, ?_⟩, q⟩
    have e := cnt_map (p := fun z => PyData.eqv z d) hmap
    rw [← e]
end
def tCt (K : PySem.W.Frag) (ta tx : TE) : TE := fun σ H Q => tBM K "list" (rCtD K false) ta (tCons tx tNil) σ H Q ∨ tBMT (rCtD K true) ta (tCons tx tNil) σ H Q
section
variable {Ef : L2.St → FX} {σ : L2.St} {H : Hp} {Q : V → Hp → Prop}
theorem cntV_some {u v : PyData} {j : Nat} (h : cntV u v = some j) : ∃ tp xs, u = seqP xs tp ∧ shal 60 v = true ∧ shalAll 60 xs = true ∧ xs.countP (fun z => PyData.eqv z v) = j := by
  have key : ∀ {xs : List PyData}, (if shal 60 v && shalAll 60 xs then some (xs.countP fun z => PyData.eqv z v) else none) = some j → shal 60 v = true ∧ shalAll 60 xs = true ∧ xs.countP (fun z => PyData.eqv z v) = j := fun {xs} h => by
    obtain ⟨hs, h⟩ := ifS h
    rw [Bool.and_eq_true] at hs
    exact ⟨hs.1, hs.2, Option.some.inj h⟩
  cases u with
  | list xs => exact ⟨false, xs, rfl, key h⟩
  | tuple xs => exact ⟨true, xs, rfl, key h⟩
  | _ => cases h
theorem rG_count {K : PySem.W.Frag} {ma mx : Env → M D} (h : rG Ef DR (fun ρ => do
    let x ← ma ρ
    let u ← ofO (seqD x)
    let y ← mx ρ
    let v ← look y
    ofO ((cntV u v).map fun j => .dat (.int (j : Nat)))) σ H Q) : tCt K (rG Ef DR ma) (rG Ef DR mx) σ H Q := by
  obtain ⟨W, ρ, st, er, x, g, w⟩ := h
  rcases wp_part w with w | w
  · refine .inl ⟨W, ρ, st, er, (At.bind (R1 := DR) ⟨x, g, w⟩).mono ?_⟩
    rintro o H1 ⟨p, W1, st1, x1, r1, h1⟩
    cases e : isTup p
    · rw [e] at h1
      obtain ⟨p', hp, h2⟩ := At.ofO (show At _ _ _ _ (ofO (seqD p) >>= _) _ _ _ _ from h1)
      cases p with
      | dat d =>
        cases d with
        | list xs =>
          cases hp
          cases (show Dv W1.im H1 o (.list xs) from r1) with
          | lst i r q =>
            refine ⟨.inl ⟨rfl, _, .inl r⟩, W1, ρ, st1, er.mono x1, (At.bind (R1 := DR) h2).mono ?_⟩
            rintro y H2 ⟨dy, W2, st2, x2, r2, h3⟩
            obtain ⟨v, hv, h4⟩ := h3.look r2
            obtain ⟨d, hd, h6⟩ := h4.ofO'
            obtain ⟨j, hj, rfl⟩ := Option.map_eq_some_iff.mp hd
            obtain ⟨tp, ys, es, s1, s2, hj⟩ := cntV_some hj
            subst hj
            cases tp with
            | true => cases es
            | false =>
              cases es
              have q2 := x2.all q
              have r3 : Rd H2 _ (.lst _) := r.elim (fun z => .inl (x2.frm _ _ z (.inr i))) fun ⟨o, z⟩ => .inr ⟨o, x2.frm _ _ z (.inr i)⟩
              exact ⟨_, y, v, xs, _, rfl, rfl, .inl r3, q2.dp K (shalAll_plain _ _ s2), hv.dp K (shal_plain _ _ s1), s2, s1, h6.pure _ _ _ h6.1 h6.2.1 (.int _)⟩
        | tuple xs => exact nomatch e
        | _ => exact nomatch hp
      | _ => exact nomatch hp
    · rw [e] at h1
      exact (show At _ _ _ _ fail _ _ _ _ from h1).fail.elim
  · refine .inr ⟨W, ρ, st, er, (At.bind (R1 := DR) ⟨x, g, w⟩).mono ?_⟩
    rintro o H1 ⟨p, W1, st1, x1, r1, h1⟩
    cases e : isTup p
    · rw [e] at h1
      exact (show At _ _ _ _ fail _ _ _ _ from h1).fail.elim
    · rw [e] at h1
      obtain ⟨p', hp, h2⟩ := At.ofO (show At _ _ _ _ (ofO (seqD p) >>= _) _ _ _ _ from h1)
      cases p with
      | dat d =>
        cases d with
        | tuple xs =>
          cases hp
          cases (show Dv W1.im H1 o (.tuple xs) from r1) with
          | tup i r q =>
            refine ⟨⟨_, _, rfl, r⟩, W1, ρ, st1, er.mono x1, (At.bind (R1 := DR) h2).mono ?_⟩
            rintro y H2 ⟨dy, W2, st2, x2, r2, h3⟩
            obtain ⟨v, hv, h4⟩ := h3.look r2
            obtain ⟨d, hd, h6⟩ := h4.ofO'
            obtain ⟨j, hj, rfl⟩ := Option.map_eq_some_iff.mp hd
            obtain ⟨tp, ys, es, s1, s2, hj⟩ := cntV_some hj
            subst hj
            cases tp with
            | false => cases es
            | true =>
              cases es
              have q2 := x2.all q
              have r3 : StT H2 _ _ := r.mono fun o z => x2.frm _ _ z (.inr i)
              exact ⟨_, y, v, xs, _, rfl, rfl, r3.sq, q2.dp K (shalAll_plain _ _ s2), hv.dp K (shal_plain _ _ s1), s2, s1, h6.pure _ _ _ h6.1 h6.2.1 (.int _)⟩
        | _ => exact nomatch e
      | _ => exact nomatch e
abbrev rInsert : V → List V → Hp → VK → Prop := fun x vs H Q => ∃ (l : Addr) (xs : List V) (i : Int) (y : V), x = .ref l ∧ vs = [.int i, y] ∧ H l = some (.lst xs) ∧ xs.length < sizeLine ∧ 0 ≤ i ∧ i < 2 ^ 63 ∧
    Q .non (upd H l (.lst (xs.take i.toNat ++ [y] ++ xs.drop i.toNat)))
theorem rG_insert {K : PySem.W.Frag} {ma mb mx : Env → M D} (h : rG Ef DR (fun ρ => do
    let p ← ma ρ
    let i ← refOf p
    let _ ← cellAt i
    let y ← mb ρ
    let k ← asInt y
    let z ← mx ρ
    let u ← settle z
    let xs ← cellAt i
    guardB (decide (xs.length < LIM) && small k && decide (0 ≤ k))
    putCell i (.lst (xs.take k.toNat ++ [u] ++ xs.drop k.toNat))
    pure (.dat .none)) σ H Q) : tBM K "list" rInsert (rG Ef DR ma) (tCons (rG Ef DR mb) (tCons (rG Ef DR mx) tNil)) σ H Q := by
  obtain ⟨W, ρ, st, er, h⟩ := h
  refine ⟨W, ρ, st, er, (At.bind (R1 := DR) h).mono ?_⟩
  rintro o H1 ⟨p, W1, st1, x1, r1, h1⟩
  obtain ⟨i, a, rfl, ha, rfl, h2⟩ := h1.refOf r1
  obtain ⟨xs0, vs0, _, _, hv0, _, h2⟩ := h2.cellAt ha
  refine ⟨.inl ⟨rfl, _, .inl (.inl hv0)⟩, W1, ρ, st1, er.mono x1, (At.bind (R1 := DR) h2).mono ?_⟩
  rintro y H2 ⟨dy, W2, st2, x2, r2, h3⟩
  obtain ⟨k, rfl, h3⟩ := h3.asInt r2
  refine ⟨W2, ρ, st2, (er.mono x1).mono x2, (At.bind (R1 := DR) h3).mono ?_⟩
  rintro y H3 ⟨dy, W3, st3, x3, r3, h4⟩
  obtain ⟨z, W4, st4, xb, dz, _, k3, h5⟩ := h4.settle' r3 (fun p n => h3.1.fresh n) x3
  have ha3 : W4.eta[i]? = some a := xb.at (x2.at ha)
  obtain ⟨xs, vs, _, n, hv, q, h6⟩ := h5.cellAt ha3
  obtain ⟨hz, h7⟩ := h6.guard
  rw [Bool.and_eq_true, Bool.and_eq_true] at hz
  obtain ⟨⟨z1, z2⟩, z3⟩ := hz
  have z4 := of_decide_eq_true z3
  have z5 : -1000000 ≤ k ∧ k ≤ 1000000 := of_decide_eq_true z2
  refine ⟨a, vs, k, y, rfl, rfl, hv, by rw [q.length, sizeLine_eq]; exact of_decide_eq_true z1, z4, by omega, ?_⟩
  have h8 := h7.putCell (o := .lst (vs.take k.toNat ++ [y] ++ vs.drop k.toNat)) ha3 n ⟨n, _, upd_same, DvAll.append (DvAll.append ((q.take _).write n) (.cons (dz.write n) .nil)) ((q.drop _).write n)⟩
  exact h8.pure _ _ _ h8.1 h8.2.1 .non
end
end MP
end MCnt

section MDic
set_option Elab.async false
set_option linter.all false
set_option maxRecDepth 100000
set_option autoImplicit false
set_option maxHeartbeats 4000000
/-! MDic: dicts. -/
namespace MP
open PySem PySem.Spec PyProof.Rows L2
variable [Cla]
variable {Fx : FX} {Ef : L2.St → FX} {Xp : Exc → Store → Prop}

/-! ### what a dict holds -/
abbrev DvP {κ : Type} (I : Addr → Prop) (H : Hp) (enc : κ → PyData) : List (κ × V) → List (PyData × PyData) → Prop := Paired fun p q => q.1 = enc p.1 ∧ Dv I H p.2 q.2
section
variable {I : Addr → Prop} {H : Hp}
theorem dvKv_p : ∀ {ks : List (Key × V)} {kvs : List (PyData × PyData)}, DvKv I H ks kvs → DvP I H keyD ks kvs
  | _, _, .nil => .nil
  | _, _, .cons x h => .cons ⟨rfl, x⟩ (dvKv_p h)
theorem p_dvKv : ∀ {ks : List (Key × V)} {kvs : List (PyData × PyData)}, DvP I H keyD ks kvs → DvKv I H ks kvs
  | _, _, .nil => .nil
  | _, (_, _) :: _, .cons ⟨e, x⟩ h => by
    cases e
    exact .cons x (p_dvKv h)
theorem DvKt.isK : ∀ {ks : List (List Int × Addr × V)} {kvs : List (PyData × PyData)}, DvKt I H ks kvs → IsK H ks
  | _, _, .nil => fun _ h => nomatch h
  | _, _, .cons i r x h => fun p hp => by
    rcases List.mem_cons.mp hp with rfl | hp
    · exact r
    · exact DvKt.isK h p hp
theorem DvKt.length : ∀ {ks : List (List Int × Addr × V)} {kvs : List (PyData × PyData)}, DvKt I H ks kvs → ks.length = kvs.length
  | _, _, .nil => rfl
  | _, _, .cons _ _ _ h => by rw [List.length_cons, List.length_cons, DvKt.length h]
theorem same_key (a b : Key) : same (keyD a) (keyD b) = decide (a = b) := by
  cases a <;> cases b <;> simp [keyD, same]
def keysD (k : List Int) : PyData := .tuple (k.map .int)
theorem allInts_keys : ∀ k : List Int, allInts (k.map .int) = some k
  | [] => rfl
  | i :: k => by rw [List.map_cons, allInts, allInts_keys k]; rfl
theorem same_keysAll : ∀ (a b : List Int), sameAll (a.map .int) (b.map .int) = decide (a = b)
  | [], [] => rfl
  | [], _ :: _ => rfl
  | _ :: _, [] => rfl
  | x :: a, y :: b => by
    rw [List.map_cons, List.map_cons, sameAll, same_keysAll a b]
    by_cases h : x = y <;> by_cases h2 : a = b <;> simp [same, h, h2]
theorem same_keys (a b : List Int) : same (keysD a) (keysD b) = decide (a = b) := by
  show same (.tuple _) (.tuple _) = _
  rw [same]
  exact same_keysAll a b
theorem DvKt.get (k : List Int) : ∀ {ks : List (List Int × Addr × V)} {kvs : List (PyData × PyData)}, DvKt I H ks kvs → (dGet kvs (keysD k) = none ∧ xGet ks k = none) ∨ ∃ v d, dGet kvs (keysD k) = some d ∧ xGet ks k = some v ∧ Dv I H v d
  | _, _, .nil => .inl ⟨rfl, rfl⟩
  | _, _, .cons (k := k0) (b := b0) (v := v0) (d := d0) (vs := vs) (ds := ds) i r x h => by
    by_cases hk : k0 = k
    · subst hk
      refine .inr ⟨_, _, ?_, ?_, x⟩
      · have := same_keys k0 k0
        rw [decide_eq_true rfl] at this
        unfold keysD at this
        simp [dGet, keysD, this]
      · simp [xGet]
    · have e1 : dGet ((.tuple (k0.map .int), d0) :: ds) (keysD k) = dGet ds (keysD k) := by
        have := same_keys k0 k
        rw [decide_eq_false hk] at this
        unfold keysD at this
        simp [dGet, keysD, this]
      have e2 : xGet ((k0, b0, v0) :: vs) k = xGet vs k := by simp [xGet, hk]
      rw [e1, e2]
      exact DvKt.get k h
theorem DvKt.any (k : List Int) : ∀ {ks : List (List Int × Addr × V)} {kvs : List (PyData × PyData)}, DvKt I H ks kvs → (kvs.any fun p => same p.1 (keysD k)) = ks.any fun p => decide (p.1 = k)
  | _, _, .nil => rfl
  | _, _, .cons (k := k0) i r x h => by
    rw [List.any_cons, List.any_cons, DvKt.any k h]
    have := same_keys k0 k
    unfold keysD at this ⊢
    rw [this]
theorem DvKt.putM (k : List Int) {v : V} {d : PyData} (dv : Dv I H v d) : ∀ {ks : List (List Int × Addr × V)} {kvs : List (PyData × PyData)}, DvKt I H ks kvs →
    DvKt I H (ks.map fun p => if p.1 = k then (p.1, p.2.1, v) else p) (kvs.map fun p => if same p.1 (keysD k) then (p.1, d) else p)
  | _, _, .nil => .nil
  | _, _, .cons (k := k0) i r x h => by
    rw [List.map_cons, List.map_cons]
    have := same_keys k0 k
    unfold keysD at this
    by_cases hk : k0 = k
    · subst hk
      rw [decide_eq_true rfl] at this
      rw [if_pos rfl, if_pos (show same (.tuple (k0.map .int)) (keysD k0) = true from this)]
      exact .cons i r dv (DvKt.putM k0 dv h)
    · rw [decide_eq_false hk] at this
      rw [if_neg hk, if_neg (show ¬ same (.tuple (k0.map .int)) (keysD k) = true by unfold keysD; rw [this]; decide)]
      exact .cons i r x (DvKt.putM k dv h)
theorem DvKt.snoc (k : List Int) {b : Addr} {v : V} {d : PyData} (ib : I b) (sb : StT H b (k.map V.int)) (dv : Dv I H v d) : ∀ {ks : List (List Int × Addr × V)} {kvs : List (PyData × PyData)}, DvKt I H ks kvs → DvKt I H (ks ++ [(k, b, v)]) (kvs ++ [(keysD k, d)])
  | _, _, .nil => .cons ib sb dv .nil
  | _, _, .cons i r x h => .cons i r x (DvKt.snoc k ib sb dv h)
theorem DvKt.put (k : List Int) {b : Addr} {v : V} {d : PyData} (ib : I b) (sb : StT H b (k.map V.int)) (dv : Dv I H v d) {ks : List (List Int × Addr × V)} {kvs : List (PyData × PyData)} (h : DvKt I H ks kvs) : DvKt I H (xPut ks k b v) (dPut (keysD k) d kvs) := by
  unfold xPut dPut
  rw [h.any k]
  split
  · exact h.putM k dv
  · exact h.snoc k ib sb dv
theorem keyOk_k {u : PyData} (h : keyOk false u = true) : ∃ k : Key, u = keyD k := by
  cases u <;> first | (cases h; done) | skip
  · exact ⟨.inl _, rfl⟩
  · exact ⟨.inr _, rfl⟩
theorem keys_of : ∀ {xs : List PyData}, xs.all isInt = true → ∃ ks : List Int, xs = ks.map .int
  | [], _ => ⟨[], rfl⟩
  | x :: xs, h => by
    rw [List.all_cons, Bool.and_eq_true] at h
    obtain ⟨ks, rfl⟩ := keys_of h.2
    cases x <;> first | (cases h.1; done) | skip
    exact ⟨_ :: ks, rfl⟩
theorem keyOk_t {u : PyData} (h : keyOk true u = true) : ∃ k : List Int, u = keysD k := by
  cases u <;> first | (cases h; done) | skip
  rename_i xs
  obtain ⟨ks, rfl⟩ := keys_of (xs := xs) h
  exact ⟨ks, rfl⟩
theorem dv_key {v : V} : ∀ {k : Key}, Dv I H v (keyD k) → v = kV k
  | .inl _, h => by cases h; rfl
  | .inr _, h => by cases h; rfl
section
variable {κ : Type} [DecidableEq κ] {enc : κ → PyData} {ks : List (κ × V)} {kvs : List (PyData × PyData)}
theorem DvP.get (hs : ∀ a b, same (enc a) (enc b) = decide (a = b)) (k : κ) (h : DvP I H enc ks kvs) : (dGet kvs (enc k) = none ∧ valV ks k = none) ∨ ∃ v d, dGet kvs (enc k) = some d ∧ valV ks k = some v ∧ Dv I H v d := by
  induction h with
  | nil => exact .inl ⟨rfl, rfl⟩
  | @cons p q ps qs hd t ih =>
    obtain ⟨e, x⟩ := hd
    by_cases hk : p.1 = k
    · refine .inr ⟨p.2, q.2, ?_, valV_pos hk, x⟩
      unfold dGet
      rw [List.find?_cons, e, hs, decide_eq_true hk]
      rfl
    · have e2 : dGet (q :: qs) (enc k) = dGet qs (enc k) := by
        unfold dGet
        rw [List.find?_cons, e, hs, decide_eq_false hk]
      rw [e2, valV_neg hk]
      exact ih
theorem DvP.any (hs : ∀ a b, same (enc a) (enc b) = decide (a = b)) (k : κ) (h : DvP I H enc ks kvs) : (kvs.any fun p => same p.1 (enc k)) = ks.any fun p => decide (p.1 = k) := by
  induction h with
  | nil => rfl
  | @cons p q ps qs hd t ih => rw [List.any_cons, List.any_cons, ih, hd.1, hs]
theorem DvP.putM (hs : ∀ a b, same (enc a) (enc b) = decide (a = b)) (k : κ) {v : V} {d : PyData} (x : Dv I H v d) (h : DvP I H enc ks kvs) :
    DvP I H enc (ks.map fun kv => if kv.1 = k then (kv.1, v) else kv) (kvs.map fun p => if same p.1 (enc k) then (p.1, d) else p) := by
  induction h with
  | nil => exact .nil
  | @cons p q ps qs hd t ih =>
    rw [List.map_cons, List.map_cons]
    refine .cons ?_ ih
    rw [hd.1, hs]
    by_cases hk : p.1 = k
    · rw [if_pos hk, decide_eq_true hk, if_pos rfl]; exact ⟨rfl, x⟩
    · rw [if_neg hk, decide_eq_false hk, if_neg (by decide)]; exact hd
theorem DvP.snoc (k : κ) {v : V} {d : PyData} (x : Dv I H v d) (h : DvP I H enc ks kvs) : DvP I H enc (ks ++ [(k, v)]) (kvs ++ [(enc k, d)]) := by
  induction h with
  | nil => exact .cons ⟨rfl, x⟩ .nil
  | cons hd t ih => exact .cons hd ih
theorem DvP.put (hs : ∀ a b, same (enc a) (enc b) = decide (a = b)) (k : κ) {v : V} {d : PyData} (x : Dv I H v d) (h : DvP I H enc ks kvs) : DvP I H enc (putK ks k v) (dPut (enc k) d kvs) := by
  unfold putK dPut
  rw [h.any hs]
  split
  · exact h.putM hs k x
  · exact h.snoc k x
theorem pimp {α β : Type} {R S : α → β → Prop} {xs : List α} {ys : List β} (h : Paired R xs ys) (i : ∀ a b, R a b → S a b) : Paired S xs ys := by
  induction h with
  | nil => exact .nil
  | cons a _ ih => exact .cons (i _ _ a) ih
end
end
/-- a look at a dict -/
theorem At.lookDict {α β : Type} {R : Hp → Wd → Hp → β → α → Prop} {W0 W : Wd} {H0 H H9 : Hp} {st : Store} {Q : β → Hp → Prop} {d : D} {v : V} {k : Bool × List (PyData × PyData) → M α} (h : At Fx W0 H0 R (MP.lookDict d >>= k) W H st Q) (r : DR H9 W H v d) :
    ∃ a t kvs, v = .ref a ∧ DictOk W.im H a t kvs ∧ At Fx W0 H0 R (k (t, kvs)) W H st Q := by
  obtain ⟨x, g, w⟩ := h
  rw [wp_bind] at w
  cases d with
  | dat d => exact w.elim
  | newL xs => exact w.elim
  | tree ts => exact w.elim
  | newD t kvs =>
    obtain ⟨p, e, _, _, q⟩ := r
    exact ⟨p, t, kvs, e, q, x, g, w⟩
  | ref i =>
    obtain ⟨a, ha, e⟩ := r
    obtain ⟨t, kvs, hx, w⟩ := wp_lookDR.mp w
    exact ⟨a, t, kvs, e, (g.cells i _ a hx ha).2, x, g, w⟩
theorem dget_of {W : Wd} {H : Hp} {a : Addr} {t : Bool} {kvs : List (PyData × PyData)} {y : V} {u : PyData} (d : DictOk W.im H a t kvs) (hk : keyOk t u = true) (hy : Vw W H y u) :
    ∃ o, XGet H a y o ∧ ((dGet kvs u = none ∧ o = none) ∨ ∃ v r, dGet kvs u = some r ∧ o = some v ∧ Dv W.im H v r) := by
  cases t with
  | false =>
    obtain ⟨ks, e, h⟩ := d
    obtain ⟨k, rfl⟩ := keyOk_k hk
    have ey : y = kV k := dv_key (I := W.im) (H := H) (by cases k <;> exact hy)
    subst ey
    exact ⟨_, .inl (DGet.k e), by
      rcases (dvKv_p h).get same_key k with z | ⟨v, r, z1, z2, z3⟩
      · exact .inl z
      · exact .inr ⟨v, r, z1, z2, z3⟩⟩
  | true =>
    obtain ⟨ks, e, h⟩ := d
    obtain ⟨k, rfl⟩ := keyOk_t hk
    cases (show Dv W.im H y (.tuple (k.map .int)) from hy) with
    | tup i r q =>
      obtain ⟨rfl, _⟩ := q.ints (allInts_keys k)
      refine ⟨_, .inr ⟨ks, k, _, e, h.isK, rfl, r, rfl⟩, ?_⟩
      rcases h.get k with z | ⟨v, r, z1, z2, z3⟩
      · exact .inl z
      · exact .inr ⟨v, r, z1, z2, z3⟩
theorem dget_k {W : Wd} {H : Hp} {a : Addr} {kvs : List (PyData × PyData)} {y : V} {u : PyData} (d : DictOk W.im H a false kvs) (hk : keyOk false u = true) (hy : Vw W H y u) :
    ∃ o, DGet H a y o ∧ ((dGet kvs u = none ∧ o = none) ∨ ∃ v r, dGet kvs u = some r ∧ o = some v ∧ Dv W.im H v r) := by
  obtain ⟨ks, e, h⟩ := d
  obtain ⟨k, rfl⟩ := keyOk_k hk
  have ey : y = kV k := dv_key (I := W.im) (H := H) (by cases k <;> exact hy)
  subst ey
  refine ⟨_, DGet.k e, ?_⟩
  rcases (dvKv_p h).get same_key k with z | ⟨v, r, z1, z2, z3⟩
  · exact .inl z
  · exact .inr ⟨v, r, z1, z2, z3⟩
section
variable {X : Cx} {σ : L2.St} {H : Hp} {Q : V → Hp → Prop}
theorem rG_in {ma mb : Env → M D} {f : Bool → Bool} (h : rG Ef DR (fun ρ => do
    let x ← ma ρ
    let y ← mb ρ
    let u ← look x
    let d ← lookDict y
    guardB (keyOk d.1 u)
    pure (.dat (.bool (f (dGet d.2 u).isSome)))) σ H Q) : rG Ef DR ma σ H fun y H1 => rG Ef DR mb σ H1 fun x H2 => ∃ a o, x = .ref a ∧ XGet H2 a y o ∧ Q (.bl (f o.isSome)) H2 := by
  obtain ⟨W, ρ, st, er, h'⟩ := rG_two h
  refine ⟨W, ρ, st, er, h'.mono fun v H1 ⟨W1, ρ1, st1, er1, h1⟩ => ⟨W1, ρ1, st1, er1, h1.mono ?_⟩⟩
  rintro u H2 ⟨W', ρ', d, e, W2, st2, _, _, r1, r2, h2⟩
  obtain ⟨u', hu, h3⟩ := h2.look r1
  obtain ⟨a, t, kvs, rfl, dk, h4⟩ := h3.lookDict r2
  obtain ⟨hk, h5⟩ := h4.guard
  obtain ⟨o, g, z⟩ := dget_of dk hk hu
  refine ⟨a, o, rfl, g, ?_⟩
  have e2 : (dGet kvs u').isSome = o.isSome := by
    rcases z with ⟨z1, z2⟩ | ⟨v, r, z1, z2, _⟩ <;> rw [z1, z2] <;> rfl
  rw [e2] at h5
  exact h5.pure _ _ _ h5.1 h5.2.1 (.bl _)
theorem rG_dget {ma mb : Env → M D} (h : rG Ef DR (fun ρ => do
    let x ← ma ρ
    let y ← mb ρ
    let d ← lookDict x
    let v ← look y
    guardB (keyOk d.1 v)
    let r ← ofO (dGet d.2 v)
    pure (.dat r)) σ H Q) : tXGet (rG Ef DR ma) (rG Ef DR mb) σ H Q := by
  obtain ⟨W, ρ, st, er, h'⟩ := rG_two h
  refine ⟨W, ρ, st, er, h'.mono fun v H1 ⟨W1, ρ1, st1, er1, h1⟩ => ⟨W1, ρ1, st1, er1, h1.mono ?_⟩⟩
  rintro u H2 ⟨W', ρ', d, e, W2, st2, _, _, r1, r2, h2⟩
  obtain ⟨a, t, kvs, rfl, dk, h3⟩ := h2.lookDict r1
  obtain ⟨u', hu, h4⟩ := h3.look r2
  obtain ⟨hk, h5⟩ := h4.guard
  obtain ⟨r, er, h6⟩ := h5.ofO
  obtain ⟨o, g, z⟩ := dget_of dk hk hu
  rcases z with ⟨z1, _⟩ | ⟨v, r', z1, rfl, dv⟩
  · rw [er] at z1; cases z1
  · rw [er] at z1
    cases z1
    exact ⟨a, v, rfl, g, h6.pure _ _ _ h6.1 h6.2.1 dv⟩
theorem rG_dget2 {ma mb mc : Env → M D} (h : rG Ef DR (fun ρ => do
    let x ← ma ρ
    let i ← refOf x
    let c0 ← lookDict x
    guardB (!c0.1)
    let y ← mb ρ
    let z ← mc ρ
    let c ← lookDict x
    let u ← look y
    let v ← look z
    guardB ((!c.1) && keyOk c.1 u && shal 0 v && decide (i = i))
    pure (.dat ((dGet c.2 u).getD v))) σ H Q) : tDGet2 (rG Ef DR ma) (rG Ef DR mb) (rG Ef DR mc) σ H Q := by
  obtain ⟨W, ρ, st, er, h⟩ := h
  refine ⟨W, ρ, st, er, (At.bind (R1 := DR) h).mono ?_⟩
  rintro o H1 ⟨x, W1, st1, x1, r1, h1⟩
  obtain ⟨i, a, rfl, ha, rfl, h2⟩ := h1.refOf r1
  obtain ⟨a', t0, kvs0, ea, dk0, h3⟩ := h2.lookDict r1
  cases ea
  obtain ⟨ht0, h3⟩ := h3.guard
  refine ⟨a, rfl, ?_, W1, ρ, st1, er.mono x1, (At.bind (R1 := DR) h3).mono ?_⟩
  · cases t0 with
    | false => obtain ⟨ks, e, _⟩ := dk0; exact .inl ⟨ks, .inl e⟩
    | true => cases ht0
  rintro y H2 ⟨dy, W2, st2, x2, r2, h4⟩
  refine ⟨W2, ρ, st2, (er.mono x1).mono x2, (At.bind (R1 := DR) h4).mono ?_⟩
  rintro z H3 ⟨dz, W3, st3, x3, r3, h5⟩
  obtain ⟨a', t, kvs, ea, dk, h6⟩ := h5.lookDict (r1.mono (x2.trans x3))
  cases ea
  obtain ⟨u, hu, h7⟩ := h6.look (r2.mono x3)
  obtain ⟨v, hv, h8⟩ := h7.look r3
  obtain ⟨hg, h9⟩ := h8.guard
  simp only [Bool.and_eq_true] at hg
  have ht : t = false := by simpa using hg.1.1.1
  subst ht
  obtain ⟨o, g, zz⟩ := dget_k dk hg.1.1.2 hu
  refine ⟨o, g, ?_⟩
  rcases zz with ⟨z1, rfl⟩ | ⟨w, r', z1, rfl, dv⟩
  · rw [z1] at h9
    have dz : Dv W3.im H3 z v := by
      cases v <;> first | exact hv | skip
      cases hg.1.2
    exact h9.pure _ _ _ h9.1 h9.2.1 dz
  · rw [z1] at h9
    exact h9.pure _ _ _ h9.1 h9.2.1 dv
end
/-- d[k] = v as a target -/
theorem tg_subD {ma mb : Env → M D} {v : V} {σ : L2.St} {H : Hp} {Q : L2.St → Hp → Prop} (h : rT (fun d ρ => do
    let p ← ma ρ
    let y ← mb ρ
    let k ← look y
    let z ← settle d
    let c ← lookDict p
    let i ← refOf p
    guardB (keyOk c.1 k && decide (c.2.length < LIM))
    putCell i (.dct c.1 (dPut k z c.2))
    pure ρ) [] v σ H Q) : gSub (rG Ef DR ma) (rG Ef DR mb) rSetX v σ H Q := by
  obtain ⟨W0, H0, W, ρ, st, d, er, r, h⟩ := h
  refine ⟨W, ρ, st, er, At.anyX ((At.bind (R1 := DR) h).mono ?_)⟩
  rintro o H1 ⟨p, W1, st1, x1, r1, h1⟩
  refine ⟨W1, ρ, st1, er.mono x1, At.anyX ((At.bind (R1 := DR) h1).mono ?_)⟩
  rintro y H2 ⟨dy, W2, st2, x2, r2, h2⟩
  obtain ⟨k, hk, h3⟩ := h2.look r2
  obtain ⟨u, W3, st3, du, e3, k3, a3, h4⟩ := h3.settle (r.mono (x1.trans x2))
  have e12 := (er.mono x1).mono x2
  have hk3 : ∀ t, keyOk t k = true → Vw W3 H2 y k := fun t ht => by
    have d2 : Dv W2.im H2 y k := by
      cases t with
      | false => obtain ⟨kk, rfl⟩ := keyOk_k ht; cases kk <;> exact hk
      | true => obtain ⟨kk, rfl⟩ := keyOk_t ht; exact hk
    cases a3 [y] [k] (.cons d2 .nil) with
    | cons d3 _ => exact .of d3
  cases p with
  | ref i =>
    obtain ⟨a, ha, rfl⟩ := r1.mono x2
    obtain ⟨a', ha', ea⟩ : ∃ a', W3.eta[i]? = some a' ∧ V.ref a = V.ref a' := k3 (V.ref a) (.ref i) ⟨a, ha, rfl⟩
    cases ea
    obtain ⟨xx, gg, ww⟩ := h4
    rw [wp_bind] at ww
    obtain ⟨t, kvs, hx, ww⟩ := wp_lookDR.mp ww
    have hc := gg.cells i _ a hx ha'
    have h5 : At FX0 W0 H0 REnv (refOf (.ref i) >>= fun i => guardB (keyOk t k && decide (kvs.length < LIM)) >>= fun _ => putCell i (.dct t (dPut k u kvs)) >>= fun _ => pure ρ) W3 H2 st3 fun σ' H' => Off [] σ σ' → Q σ' H' := ⟨xx, gg, ww⟩
    obtain ⟨j, a2, ej, ha2, ea2, h6⟩ := h5.refOf (H9 := H2) (v := .ref a) ⟨a, ha', rfl⟩
    cases ej
    obtain ⟨hg, h7⟩ := h6.guard
    simp only [Bool.and_eq_true, decide_eq_true_eq] at hg
    have hv := hk3 t hg.1
    have hl : kvs.length < sizeLine := by rw [sizeLine_eq]; exact hg.2
    cases t with
    | false =>
      obtain ⟨ks, e, q⟩ := hc.2
      obtain ⟨kk, rfl⟩ := keyOk_k hg.1
      have ey : y = kV kk := dv_key (I := W3.im) (H := H2) (by cases kk <;> exact hv)
      subst ey
      refine ⟨a, _, rfl, .inl (DPut.k e (by rw [(dvKv_p q).length]; exact hl)), ?_⟩
      have h8 := h7.putCell (o := .dK (putK ks kk v)) ha' hc.1 ⟨hc.1, putK ks kk v, upd_same, p_dvKv (pimp ((dvKv_p q).put same_key kk du) fun p q z => ⟨z.1, z.2.write hc.1⟩)⟩
      exact h8.pure _ _ _ h8.1 h8.2.1 ((e3 _ _ e12).write hc.1) Off.refl
    | true =>
      obtain ⟨ks, e, q⟩ := hc.2
      obtain ⟨kk, rfl⟩ := keyOk_t hg.1
      obtain ⟨b0, rfl, i', r'⟩ : ∃ b0, y = .ref b0 ∧ W3.im b0 ∧ StT H2 b0 (kk.map V.int) := by
        cases (show Dv W3.im H2 y (.tuple (kk.map .int)) from hv) with
        | tup i' r' q' =>
          obtain ⟨rfl, _⟩ := q'.ints (allInts_keys kk)
          exact ⟨_, rfl, i', r'⟩
      refine ⟨a, _, rfl, .inr ⟨ks, kk, b0, e, q.isK, rfl, r', by rw [q.length]; exact hl, rfl⟩, ?_⟩
      have mv : ∀ b o, W3.im b → H2 b = some o → upd H2 a (dxO a (xPut ks kk b0 v)) b = some o := fun b o ib eb => by
        rw [upd_ne (fun (z : b = a) => hc.1 (by rw [← z]; exact ib))]
        exact eb
      have h8 := h7.putCell (o := dxO a (xPut ks kk b0 v)) ha' hc.1 ⟨hc.1, xPut ks kk b0 v, upd_same, (q.put kk i' r' du).mono (fun _ h => h) mv⟩
      exact h8.pure _ _ _ h8.1 h8.2.1 ((e3 _ _ e12).write hc.1) Off.refl
  | _ => exact h4.2.2.elim
/-! ### new lists, tuples, dicts -/
theorem Fin.dct {W0 W : Wd} {H0 H : Hp} {st : Store} {kvs : List (PyData × PyData)} {Q : V → Hp → Prop} (f : Fin W0 H0 st (.newD false kvs) Q) (n : Now W0 H0 W st H) {ks : List (Key × V)} (r : DvP W.im H keyD ks kvs) {p : Addr} (hp : H p = none) : Q (.ref p) (upd H p (.dK ks)) :=
  f W _ _ (n.x.trans (Ext.lay hp)) (n.g.lay hp) ⟨p, rfl, Loose.lay n.g hp, n.x.fresh hp, ks, upd_same, p_dvKv (pimp r fun a b z => ⟨z.1, (Ext.lay (W := W) hp).dv z.2⟩)⟩
theorem dv_rg {I : Addr → Prop} {H : Hp} : ∀ (n : Nat) (lo : Int), DvAll I H ((List.range n).map fun j => V.int (lo + (j : Nat))) (rngL lo n)
  | 0, lo => .nil
  | n + 1, lo => by
    rw [List.range_succ_eq_map, List.map_cons, List.map_map]
    have e0 : (fun j : Nat => V.int (lo + (j : Nat))) ∘ Nat.succ = fun j : Nat => V.int ((lo + 1) + (j : Nat)) := by
      funext j
      show V.int (lo + ((j + 1 : Nat) : Int)) = _
      congr 1
      omega
    rw [e0]
    have e1 : V.int (lo + ((0 : Nat) : Int)) = V.int lo := by congr 1; omega
    rw [e1]
    exact .cons (.int lo) (dv_rg n (lo + 1))
theorem merge_p {I : Addr → Prop} {H : Hp} : ∀ {ms : List (Key × V)} {ps : List (PyData × PyData)} {ks : List (Key × V)} {kvs : List (PyData × PyData)}, DvP I H keyD ms ps → DvP I H keyD ks kvs → DvP I H keyD (mergeK ks ms) (dPuts kvs ps)
  | _, _, _, _, .nil, r => r
  | m :: ms, (a, b) :: ps, ks, kvs, .cons ⟨e, x⟩ h, r => by
    have e : a = keyD m.1 := e
    subst e
    show DvP I H keyD (mergeK (putK ks m.1 m.2) ms) (dPuts (dPut (keyD m.1) b kvs) ps)
    exact merge_p h (r.put same_key m.1 x)
section
variable {X : Cx} {σ : L2.St} {H : Hp} {Q : V → Hp → Prop}
def rgQ (H : Hp) (vs : List V) (Q : V → Hp → Prop) : Bool → Prop
  | true => NewT H vs Q
  | false => ∀ q, H q = none → Q (.ref q) (upd H q (.lst vs))
theorem rgv_fin {W0 W : Wd} {H0 : Hp} {st : Store} {Fx : FX} {tp : Bool} {i j : Int} (h : At Fx W0 H0 DR (guardB (small i && small j) >>= fun _ => pure (rgD tp (rngL i (j - i).toNat))) W H st Q) : RgOk i j ∧ rgQ H (rgV i j) Q tp := by
  obtain ⟨hs, h3⟩ := h.guard
  have hs' : (-1000000 ≤ i ∧ i ≤ 1000000) ∧ (-1000000 ≤ j ∧ j ≤ 1000000) := by simpa [small] using hs
  refine ⟨⟨by omega, by omega, by omega, by omega, by omega⟩, ?_⟩
  cases tp with
  | true => exact Fin.tup (W0 := W0) (H0 := H0) (st := st) (W := W) h3.pure ⟨h3.1, h3.2.1⟩ (dv_rg (j - i).toNat i)
  | false => exact fun q hq => Fin.lst (W0 := W0) (H0 := H0) (st := st) (W := W) h3.pure ⟨h3.1, h3.2.1⟩ (dv_rg (j - i).toNat i) hq
theorem rG_rgv1 {tp : Bool} {m : Env → M D} {ml : Env → M (Option Int)} (hl : ml = fun _ => pure none) (h : rG Ef DR (fun ρ => do
    let l ← ml ρ
    let y ← m ρ
    let j ← asInt y
    guardB (small (l.getD 0) && small j)
    pure (rgD tp (rngL (l.getD 0) (j - l.getD 0).toNat))) σ H Q) : tRg1 (rG Ef DR m) σ H fun a b H1 => RgOk a b ∧ rgQ H1 (rgV a b) Q tp := by
  subst hl
  have h' : rG Ef DR (fun ρ => m ρ >>= fun y => asInt y >>= fun j => guardB (small 0 && small j) >>= fun _ => pure (rgD tp (rngL 0 (j - 0).toNat))) σ H Q := h
  obtain ⟨W, ρ, st, er, h'⟩ := rG_then h'
  refine ⟨W, ρ, st, er, h'.mono ?_⟩
  rintro v H1 ⟨W', ρ', d, W1, st1, _, x1, r1, h1⟩
  obtain ⟨j, e, h2⟩ := h1.asInt r1
  exact ⟨j, e, rgv_fin h2⟩
theorem rG_rgv2 {tp : Bool} {m m2 : Env → M D} (h : rG Ef DR (fun ρ => do
    let l ← (m2 ρ >>= fun x => asInt x >>= fun i => pure (some i))
    let y ← m ρ
    let j ← asInt y
    guardB (small (l.getD 0) && small j)
    pure (rgD tp (rngL (l.getD 0) (j - l.getD 0).toNat))) σ H Q) : tRg2 (rG Ef DR m2) (rG Ef DR m) σ H fun a b H1 => RgOk a b ∧ rgQ H1 (rgV a b) Q tp := by
  have h' : rG Ef DR (fun ρ => m2 ρ >>= fun x => asInt x >>= fun i => m ρ >>= fun y => asInt y >>= fun j => guardB (small i && small j) >>= fun _ => pure (rgD tp (rngL i (j - i).toNat))) σ H Q := by
    refine rG_congr (fun Xp ρ st P w => ?_) h
    simp only [wp_bind, wp_pure] at w ⊢
    exact w
  obtain ⟨W, ρ, st, er, h'⟩ := h'
  refine ⟨W, ρ, st, er, (At.bind (R1 := DR) h').mono ?_⟩
  rintro v H1 ⟨d, W1, st1, x1, r1, h1⟩
  obtain ⟨i, rfl, h2⟩ := h1.asInt r1
  refine ⟨W1, ρ, st1, er.mono x1, (At.bind (R1 := DR) h2).mono ?_⟩
  rintro u H2 ⟨e, W2, st2, x2, r2, h3⟩
  obtain ⟨j, rfl, h4⟩ := h3.asInt r2
  exact ⟨i, j, rfl, rfl, rgv_fin h4⟩
theorem keysK {I : Addr → Prop} : ∀ {ks : List (Key × V)} {kvs : List (PyData × PyData)}, DvP I H keyD ks kvs → DvAll I H (ks.map fun kv => kV kv.1) (kvs.map (·.1))
  | _, _, .nil => .nil
  | (k, _) :: _, (_, _) :: _, .cons ⟨e, x⟩ h => by
    cases e
    refine .cons ?_ (keysK h)
    cases k <;> constructor
theorem rG_listD {m : Env → M D} (h : rG Ef DR (fun ρ => do
    let x ← m ρ
    let c ← lookDict x
    guardB (!c.1)
    match (false : Bool) with
    | true => do
      let ns ← ofO (allInts (c.2.map (·.1)))
      guardB (decide (ns.length < 64))
      pure (.newL ((isort ns).map .int))
    | false => pure (.newL (c.2.map (·.1)))) σ H Q) : tCB rListD (tCons (rG Ef DR m) tNil) σ H Q := by
  obtain ⟨W, ρ, st, er, h'⟩ := rG_then h
  refine ⟨W, ρ, st, er, h'.mono ?_⟩
  rintro v H1 ⟨W', ρ', d, W1, st1, _, x1, r1, h1⟩
  obtain ⟨a, t, kvs, rfl, dk, h2⟩ := h1.lookDict r1
  obtain ⟨ht, h3⟩ := h2.guard
  cases t with
  | true => cases ht
  | false =>
    obtain ⟨ks, e, q⟩ := dk
    exact ⟨a, ks, rfl, e, fun p hp => Fin.lst (W0 := W') (H0 := H) (st := st1) (W := W1) h3.pure ⟨h3.1, h3.2.1⟩ (keysK (dvKv_p q)) hp⟩
def rSortDI : List V → Hp → VK → Prop := fun xs H Q => ∃ (a : Addr) (kvs : List (Key × V)) (ks : List Int), xs = [.ref a] ∧ Rd H a (.dK kvs) ∧ kvs.map (·.1) = ks.map Sum.inl ∧ ks.length < 64 ∧ ∀ (ys : List Int) (p : Addr), ys.Perm ks → ys.Pairwise (· ≤ ·) → H p = none → Q (.ref p) (upd H p (.lst (ys.map V.int)))
theorem intKeys {I : Addr → Prop} : ∀ {ks : List (Key × V)} {kvs : List (PyData × PyData)} {ns : List Int}, DvP I H keyD ks kvs → allInts (kvs.map (·.1)) = some ns → ks.map (·.1) = ns.map Sum.inl
  | _, _, _, .nil, e => by
    unfold allInts at e
    cases e
    rfl
  | (k, _) :: _, (_, _) :: qs, ns, .cons ⟨e0, x⟩ h, e => by
    cases e0
    cases k with
    | inr z => exact absurd e (by show ¬ (allInts (PyData.str z :: _) = _); unfold allInts; simp)
    | inl z =>
      replace e : allInts (PyData.int z :: qs.map (·.1)) = some ns := e
      unfold allInts at e
      obtain ⟨ms, e', rfl⟩ := mapS e
      rw [List.map_cons, List.map_cons, intKeys h e']
theorem rG_sortD {m : Env → M D} (h : rG Ef DR (fun ρ => do
    let x ← m ρ
    let c ← lookDict x
    guardB (!c.1)
    match (true : Bool) with
    | true => do
      let ns ← ofO (allInts (c.2.map (·.1)))
      guardB (decide (ns.length < 64))
      pure (.newL ((isort ns).map .int))
    | false => pure (.newL (c.2.map (·.1)))) σ H Q) : tCB rSortDI (tCons (rG Ef DR m) tNil) σ H Q := by
  obtain ⟨W, ρ, st, er, h'⟩ := rG_then h
  refine ⟨W, ρ, st, er, h'.mono ?_⟩
  rintro v H1 ⟨W', ρ', d, W1, st1, _, x1, r1, h1⟩
  obtain ⟨a, t, kvs, rfl, dk, h2⟩ := h1.lookDict r1
  obtain ⟨ht, h3⟩ := h2.guard
  cases t with
  | true => cases ht
  | false =>
    obtain ⟨ks, e, q⟩ := dk
    obtain ⟨ns, e2, h4⟩ := h3.ofO
    obtain ⟨hl, h5⟩ := h4.guard
    refine ⟨a, ks, ns, rfl, .inl e, intKeys (dvKv_p q) e2, of_decide_eq_true hl, fun ys p k1 k2 hp => ?_⟩
    rw [isort_of k1 k2]
    exact Fin.lst (W0 := W') (H0 := H) (st := st1) (W := W1) h5.pure ⟨h5.1, h5.2.1⟩ (DvAll.of_ints _) hp
def rDictP (K : PySem.W.Frag) : List V → Hp → VK → Prop := fun xs H Q => ∃ (a : Addr) (ps : List Addr) (kvs : List (Key × V)), xs = [.ref a] ∧ SqL K H a (ps.map V.ref) ∧ Paired (fun p kv => SqT K H p [kV kv.1, kv.2]) ps kvs ∧
    ∀ p, H p = none → Q (.ref p) (upd H p (.dK (mergeK [] kvs)))
theorem pairs_at {K : PySem.W.Frag} {I : Addr → Prop} : ∀ {vs : List V} {ds : List PyData} {kvs : List (PyData × PyData)}, DvAll I H vs ds → pairsL ds = some kvs → ∃ (ps : List Addr) (ks : List (Key × V)), vs = ps.map V.ref ∧ Paired (fun p kv => SqT K H p [kV kv.1, kv.2]) ps ks ∧ DvP I H keyD ks kvs
  | _, _, kvs, .nil, e => by
    unfold pairsL at e
    cases e
    exact ⟨[], [], rfl, .nil, .nil⟩
  | _, _, kvs, .cons (ds := ds) x h, e => by
    unfold pairsL at e
    split at e
    · rename_i e0; cases e0
    · rename_i k v r e0
      cases e0
      split at e
      · rename_i hk
        obtain ⟨qs, e', rfl⟩ := mapS e
        obtain ⟨ps, ks, rfl, h1, h2⟩ := pairs_at (K := K) h e'
        obtain ⟨kk, rfl⟩ := keyOk_k hk
        cases x with
        | tup i rr q =>
          cases q with
          | cons q1 q =>
            cases q with
            | cons q2 q =>
              cases q
              rw [dv_key q1] at rr
              exact ⟨_ :: ps, (kk, _) :: ks, rfl, .cons rr.sq h1, .cons ⟨rfl, q2⟩ h2⟩
      · cases e
    · cases e
theorem rG_dof {K : PySem.W.Frag} {m : Env → M D} (h : rG Ef DR (fun ρ => do
    let x ← m ρ
    let u ← look x
    match u with
    | .list xs => do
      let kvs ← ofO (pairsL xs)
      pure (.newD false (dPuts [] kvs))
    | _ => fail) σ H Q) : tCB (rDictP K) (tCons (rG Ef DR m) tNil) σ H Q := by
  obtain ⟨W, ρ, st, er, h'⟩ := rG_then h
  refine ⟨W, ρ, st, er, h'.mono ?_⟩
  rintro v H1 ⟨W', ρ', d, W1, st1, _, x1, r1, h1⟩
  obtain ⟨u, hu, h2⟩ := h1.look r1
  cases u with
  | list ds =>
    obtain ⟨a, vs, rfl, r, q⟩ := hu
    obtain ⟨kvs, e, h3⟩ := h2.ofO
    obtain ⟨ps, ks, rfl, k1, k2⟩ := pairs_at (K := K) q e
    exact ⟨a, ps, ks, rfl, .inl r, k1, fun p hp => Fin.dct (W0 := W') (H0 := H) (st := st1) (W := W1) h3.pure ⟨h3.1, h3.2.1⟩ (merge_p k2 .nil) hp⟩
  | _ => exact h2.fail.elim
theorem At.lookN {α β : Type} {R : Hp → Wd → Hp → β → α → Prop} {W0 W : Wd} {H0 H H9 : Hp} {st : Store} {Q : β → Hp → Prop} {d : D} {v : V} {k : List PyData → M α} (h : At Fx W0 H0 R (MP.lookN d >>= k) W H st Q) (r : DR H9 W H v d) :
    ∃ a vs xs, v = .ref a ∧ (H a = some (.lst vs) ∨ StT H a vs) ∧ DvAll W.im H vs xs ∧ At Fx W0 H0 R (k xs) W H st Q := by
  obtain ⟨x, g, w⟩ := h
  rw [wp_bind] at w
  cases d with
  | dat d =>
    cases d <;> first | exact w.elim | skip
    cases (show Dv W.im H v (.tuple _) from r) with
    | tup i rr q => exact ⟨_, _, _, rfl, .inr rr, q, x, g, w⟩
  | newL xs =>
    obtain ⟨p, vs, e, hp, _, _, q⟩ := r
    exact ⟨p, vs, xs, e, .inl hp, q, x, g, w⟩
  | newD t kvs => exact w.elim
  | tree ts => exact w.elim
  | ref i =>
    obtain ⟨a, ha, e⟩ := r
    obtain ⟨xs, hx, w⟩ := wp_cellAt.mp (show MP.wp _ (MP.cellAt i) st _ from w)
    obtain ⟨n, vs, hv, q⟩ := g.live hx ha
    exact ⟨a, vs, xs, e, .inl hv, q, x, g, w⟩
theorem rG_ext {K : PySem.W.Frag} {ma mx : Env → M D} (h : rG Ef DR (fun ρ => do
    let p ← ma ρ
    let i ← refOf p
    let _ ← cellAt i
    let y ← mx ρ
    let zs ← lookN y
    let xs ← cellAt i
    guardB (decide (xs.length + zs.length ≤ LIM))
    putCell i (.lst (xs ++ zs))
    pure (.dat .none)) σ H Q) : tBM K "list" (rExtA K) (rG Ef DR ma) (tCons (rG Ef DR mx) tNil) σ H Q := by
  obtain ⟨W, ρ, st, er, h⟩ := h
  refine ⟨W, ρ, st, er, (At.bind (R1 := DR) h).mono ?_⟩
  rintro o H1 ⟨p, W1, st1, x1, r1, h1⟩
  obtain ⟨i, a, rfl, ha, rfl, h2⟩ := h1.refOf r1
  obtain ⟨xs0, vs0, _, _, hv0, _, h2⟩ := h2.cellAt ha
  refine ⟨.inl ⟨rfl, _, .inl (.inl hv0)⟩, W1, ρ, st1, er.mono x1, (At.bind (R1 := DR) h2).mono ?_⟩
  rintro y H2 ⟨dy, W2, st2, x2, r2, h3⟩
  obtain ⟨b, us, zs, rfl, rb, qb, h4⟩ := h3.lookN r2
  have ha2 : W2.eta[i]? = some a := x2.at ha
  obtain ⟨xs, vs, _, n, hv, q, h5⟩ := h4.cellAt ha2
  obtain ⟨hz, h6⟩ := h5.guard
  refine ⟨a, b, vs, us, rfl, rfl, hv, rb.imp id fun z => z.sq, by rw [q.length, qb.length, sizeLine_eq]; exact of_decide_eq_true hz, ?_⟩
  have h7 := h6.putCell (o := .lst (vs ++ us)) ha2 n ⟨n, _, upd_same, DvAll.append (q.write n) (qb.write n)⟩
  exact h7.pure _ _ _ h7.1 h7.2.1 .non
theorem dvAll_rev {I : Addr → Prop} {H : Hp} : ∀ {vs : List V} {ds : List PyData}, DvAll I H vs ds → DvAll I H vs.reverse ds.reverse
  | _, _, .nil => .nil
  | _, _, .cons x h => by
    rw [List.reverse_cons, List.reverse_cons]
    exact (dvAll_rev h).append (.cons x .nil)
theorem rG_rev {K : PySem.W.Frag} {m : Env → M D} (h : rG Ef DR (fun ρ => do
    let x ← m ρ
    let u ← look x
    match u with
    | .list xs => pure (.newL xs.reverse)
    | .tuple xs => pure (.dat (.tuple xs.reverse))
    | _ => fail) σ H Q) : tRevA K (rG Ef DR m) σ H Q := by
  obtain ⟨W, ρ, st, er, h'⟩ := rG_then h
  refine ⟨W, ρ, st, er, h'.mono ?_⟩
  rintro v H1 ⟨W', ρ', d, W1, st1, _, x1, r1, h1⟩
  obtain ⟨u, hu, h2⟩ := h1.look r1
  have key : ∀ {vs : List V} {ds : List PyData}, DvAll W1.im H1 vs ds → DvAll W1.im H1 vs.reverse ds.reverse := by
      exact fun h => dvAll_rev h
  cases u with
  | list ds =>
    obtain ⟨a, vs, rfl, r, q⟩ := hu
    exact ⟨a, vs, rfl, .inl ⟨.inl r, fun p hp => Fin.lst (W0 := W') (H0 := H) (st := st1) (W := W1) h2.pure ⟨h2.1, h2.2.1⟩ (key q) hp⟩⟩
  | tuple ds =>
    obtain ⟨a, vs, rfl, r, q⟩ := hu.tupS
    exact ⟨a, vs, rfl, .inr ⟨r, Fin.tup (W0 := W') (H0 := H) (st := st1) (W := W1) h2.pure ⟨h2.1, h2.2.1⟩ (key q)⟩⟩
  | _ => exact h2.fail.elim
/-! ### a display -/
theorem At.bindC {α β γ δ : Type} {R : Hp → Wd → Hp → β → α → Prop} {R1 : Hp → Wd → Hp → δ → γ → Prop} {W0 W Wb : Wd} {H0 H Hb : Hp} {m : M γ} {k : γ → M α} {st : Store} {Q : β → Hp → Prop} (h : At Fx W0 H0 R (m >>= k) W H st Q) (x : Ext Wb Hb W H) (xb : Ext W0 H0 Wb Hb) :
    At Fx Wb Hb R1 m W H st fun b H1 => ∃ a W1 st1, Ext Wb Hb W1 H1 ∧ R1 Hb W1 H1 b a ∧ At Fx W0 H0 R (k a) W1 H1 st1 Q := by
  obtain ⟨_, g, w⟩ := h
  rw [wp_bind] at w
  exact ⟨x, g, wp_mono2 w (fun a s w' W' H' b x' g' r => ⟨a, W', s, x', r, xb.trans x', g', w'⟩) fun e s w' W' H' x' g' => w' W' H' (xb.trans x') g'⟩
def pairV : List V → List (V × V)
  | x :: y :: r => (x, y) :: pairV r
  | _ => []
theorem pairs_disp {I : Addr → Prop} : ∀ {vs : List V} {ds : List PyData} {kvs : List (PyData × PyData)}, DvAll I H vs ds → pairsOf ds = some kvs → ∃ ks : List (Key × V), pairV vs = ks.map (fun kv => (kV kv.1, kv.2)) ∧ DvP I H keyD ks kvs ∧ vs.length = 2 * ks.length
  | _, _, kvs, .nil, e => by
    unfold pairsOf at e
    cases e
    exact ⟨[], rfl, .nil, rfl⟩
  | _, _, kvs, .cons x .nil, e => by
    unfold pairsOf at e
    cases e
  | _, _, kvs, .cons x (.cons y h), e => by
    unfold pairsOf at e
    split at e
    · rename_i hk
      obtain ⟨qs, e', rfl⟩ := mapS e
      obtain ⟨ks, k1, k2, k3⟩ := pairs_disp h e'
      obtain ⟨kk, rfl⟩ := keyOk_k hk
      refine ⟨(kk, _) :: ks, ?_, .cons ⟨rfl, y⟩ k2, by simp only [List.length_cons]; omega⟩
      rw [pairV, k1, dv_key x]
      rfl
    · cases e
theorem rG_dct {ms : Env → M (List PyData)} {trs : List (TE × TE)} (ht : ∀ σ H (Q : List (V × V) → Hp → Prop), rG Ef RLst ms σ H (fun vs H' => Q (pairV vs) H') → tPairs trs σ H Q) (h : rG Ef DR (fun ρ => do
    let xs ← ms ρ
    guardB (decide (xs.length ≤ 30))
    let kvs ← ofO (pairsOf xs)
    pure (.newD false (dPuts [] kvs))) σ H Q) : tDisp trs σ H Q := fun p hp => ht _ _ _ (by
  obtain ⟨W, ρ, st, er, h⟩ := h
  have g0 := h.2.1
  have l0 : Loose W (upd H p (.dK [])) p := Loose.lay g0 hp
  have h' := h.go (Ext.lay (o := .dK []) hp) (g0.lay hp)
  refine ⟨W, ρ, st, er.mono (Ext.lay hp), (At.bindC (R1 := RLst) h' .refl (Ext.lay hp)).mono ?_⟩
  rintro vs H1 ⟨ds, W1, st1, x1, r1, h1⟩
  obtain ⟨hz, h2⟩ := h1.guard
  obtain ⟨kvs, e, h3⟩ := h2.ofO
  obtain ⟨ks, k1, k2, k3⟩ := pairs_disp r1 e
  have l1 := x1.loose l0
  have e1 : H1 p = some (.dK []) := x1.keepL l0 upd_same
  have hlen := DvAll.length r1
  have hz' : ds.length ≤ 30 := of_decide_eq_true hz
  refine ⟨e1, ks, k1, by omega, ?_⟩
  refine h3.pure W1 _ (.ref p) (h3.1.writeL hp) (h3.2.1.writeL l1) ⟨p, rfl, l1.writeL, hp, mergeK [] ks, upd_same, p_dvKv (pimp (merge_p k2 .nil) fun a b z => ⟨z.1, z.2.write l1.2.1⟩)⟩)
end
end MP
end MDic

section MDct
set_option Elab.async false
set_option linter.all false
set_option maxRecDepth 100000
set_option autoImplicit false
namespace MP
open PySem PySem.Spec PyProof.Rows L2
variable [Cla]
/-! dict(list of pairs), the keys tuples of whole numbers. -/
def xPuts (ks more : List (List Int × Addr × V)) : List (List Int × Addr × V) := more.foldl (fun acc x => xPut acc x.1 x.2.1 x.2.2) ks
theorem xPuts_len : ∀ (more ks : List (List Int × Addr × V)), (xPuts ks more).length ≤ ks.length + more.length
  | [], ks => Nat.le_refl _
  | x :: more, ks => by
    have h1 := xPuts_len more (xPut ks x.1 x.2.1 x.2.2)
    have h2 := xPut_len ks x.1 x.2.1 x.2.2
    rw [List.length_cons]
    show (xPuts (xPut ks x.1 x.2.1 x.2.2) more).length ≤ _
    omega
theorem XR3.puts : ∀ {more : List (List Int × Addr × V)} {ms : List (List Int × Addr × Value)} {ks : List (List Int × Addr × V)} {xs : List (List Int × Addr × Value)}, XR3 more ms → XR3 ks xs → XR3 (xPuts ks more) (storedAllH xs ms) := by
  intro more ms ks xs r
  induction r generalizing ks xs with
  | nil => exact id
  | @cons p q ps qs h t ih =>
    intro r2
    obtain ⟨h1, h2, h3⟩ := h
    have z := r2.put p.1 p.2.1 h3
    show XR3 (xPuts (xPut ks p.1 p.2.1 p.2.2) ps) (storedAllH (storedH xs q.1 q.2.1 q.2.2) qs)
    rw [← h1, ← h2]
    exact ih z
def rDictX (K : PySem.W.Frag) : List V → Hp → VK → Prop := fun xs H Q => ∃ (a : Addr) (ps : List Addr) (ks : List (List Int × Addr × V)), xs = [.ref a] ∧ SqL K H a (ps.map V.ref) ∧ Paired (fun p x => SqT K H p [.ref x.2.1, x.2.2] ∧ StT H x.2.1 (x.1.map V.int)) ps ks ∧
    ∀ p, H p = none → Q (.ref p) (upd H p (dxO p (xPuts [] ks)))
section
variable {X : Cx}
theorem pairs_x {pins : List (Addr × Obj)} {σ : L2.St} {H : Hp} {s : Shared} (I : Inv X pins σ H s) : ∀ {ps : List Addr} {ks : List (List Int × Addr × V)}, Paired (fun p x => SqT X.K H p [.ref x.2.1, x.2.2] ∧ StT H x.2.1 (x.1.map V.int)) ps ks →
    ∃ xs : List (List Int × Addr × Value), XR3 ks xs ∧ xs.length = ps.length ∧ (∀ x ∈ xs, StT H x.2.1 (x.1.map V.int)) ∧ ∀ (j : Nat) (x : List Int × Addr × Value), xs[j]? = some x → ∃ b : Addr, ps[j]? = some b ∧ PairAt s.heap b (.ref x.2.1) x.2.2
  | _, _, .nil => ⟨[], .nil, rfl, (fun x hx => by cases hx), fun j x e => by cases e⟩
  | _, _, .cons (a := p) (b := x) h t => by
    obtain ⟨h1, h2⟩ := h
    obtain ⟨xs, r, hl, hs, ha⟩ := pairs_x I t
    obtain ⟨its, rv, ht, _⟩ := I.tuple h1
    obtain ⟨u, y, ei, ru, ry⟩ := vals2 rv
    subst ei
    cases ru
    refine ⟨(x.1, x.2.1, y) :: xs, .cons ⟨rfl, rfl, ry⟩ r, by rw [List.length_cons, List.length_cons, hl], fun z hz => ?_, fun j q e => ?_⟩
    · rcases List.mem_cons.mp hz with rfl | hz
      · exact h2
      · exact hs z hz
    · cases j with
      | zero =>
        have e' := Option.some.inj e
        subst e'
        exact ⟨p, rfl, .inl ht⟩
      | succ j =>
        obtain ⟨b, e1, e2⟩ := ha j q (by simpa using e)
        exact ⟨b, by simpa using e1, e2⟩
theorem call_dictX (hu : X.A.units + 64 < cLine) (hcalm : X.calm = true) : CallR X (.type "dict") (rDictX X.K) := by
  intro pins s σ H xs us Q I r q
  obtain ⟨a, ps, ks, ex, hq, hp, q⟩ := q
  subst ex
  obtain ⟨u, eu, rx⟩ := vals1 r
  subst eu
  cases rx
  obtain ⟨its, rv, pl, hz⟩ := I.list hq
  have ei := refs_at rv
  subst ei
  rw [List.length_map] at hz
  obtain ⟨prs, rel, hl, hst, hpr⟩ := pairs_x I hp
  obtain ⟨o, n, ho, hc, hd, hdat⟩ := pl
  have big : (s.heap.objs.size == sysModules) = false := beq_eq_false_iff_ne.mpr (Nat.ne_of_gt I.big)
  have P := PairArg.list (prog := X.prog) (w := X.w) a (ps.map Value.ref).toArray (fun j => ps.getD j 0) (prs.map fun x => (Value.ref x.2.1, x.2.2))
  refine call_dict_pairsH (knd := tkd X.prog X.w) (ps := prs) P (I.ok.hd hcalm) ?_ ⟨⟨o, n, ho, hc, hd, hdat⟩, ?_, fun j k v e => ?_⟩ ⟨?_, fun i key v e => ?_⟩ (fun h' hk x hx => ?_) ?_ fun h' tk hd' k => ?_
  · show (tupleKind (intKind X.prog X.w)).room _
    exact tupleKind_room_in1 (by show X.A.units + 1 + 1 < cLine; omega)
  · rw [List.size_toArray, List.length_map, List.length_map, hl]
  · rw [List.getElem?_map, Option.map_eq_some_iff] at e
    obtain ⟨x, hx, e⟩ := e
    cases e
    obtain ⟨b, e1, e2⟩ := hpr j x hx
    have e3 : ps.getD j 0 = b := by rw [List.getD_eq_getElem?_getD, e1]; rfl
    show (ps.map Value.ref).toArray[j]? = some (.ref (ps.getD j 0)) ∧ PairAt s.heap (ps.getD j 0) _ _
    rw [e3]
    exact ⟨by simp [e1], e2⟩
  · rw [List.length_map]
  · rw [PairRel, List.getElem?_map, Option.map_eq_some_iff] at e
    obtain ⟨x, hx, e⟩ := e
    cases e
    exact ⟨x.1, x.2.1, hx, rfl⟩
  · obtain ⟨ob, us, m, g1, g2⟩ := tkd_is (P := X.prog) (w := X.w) I.hok (hst x hx)
    exact ⟨ob, us, m, hk _ _ (Nat.ne_of_lt (Heap.lt_size g1)) (fun z => nomatch z) g1, g2⟩
  · rw [List.length_map, hl]
    exact hz
  · have hlen : (xPuts [] ks).length ≤ sizeLine := by
      refine Nat.le_trans (xPuts_len ks []) ?_
      rw [List.length_nil, Nat.zero_add, Paired.length rel, hl]
      exact hz
    exact ⟨.ref s.heap.objs.size, upd H s.heap.objs.size (dxO _ (xPuts [] ks)), I.laid (t' := tk) (fun b ob e => k b ob (fun z => nomatch z) e) (Nat.le_refl _) (dx_new hlen big (rel.puts .nil) hd'), rfl, q _ (I.hok.fresh (Nat.le_refl _))⟩
end
section
variable {I : Addr → Prop} {H : Hp}
theorem puts_t : ∀ (ms : List (List Int × Addr × V)) {ps : List (PyData × PyData)} {ks : List (List Int × Addr × V)} {kvs : List (PyData × PyData)}, DvKt I H ms ps → DvKt I H ks kvs → DvKt I H (xPuts ks ms) (dPuts kvs ps)
  | [], _, _, _, h, r => by
    cases h
    exact r
  | (k, b, v) :: ms, _, _, _, h, r => by
    cases h with
    | cons i sb x h2 =>
      have z := puts_t ms h2 (r.put k i sb x)
      exact z
theorem pairs_atX {K : PySem.W.Frag} : ∀ {vs : List V} {ds : List PyData} {kvs : List (PyData × PyData)}, DvAll I H vs ds → pairsT ds = some kvs → ∃ (ps : List Addr) (ks : List (List Int × Addr × V)), vs = ps.map V.ref ∧ Paired (fun p x => SqT K H p [.ref x.2.1, x.2.2] ∧ StT H x.2.1 (x.1.map V.int)) ps ks ∧ DvKt I H ks kvs
  | _, _, kvs, .nil, e => by
    unfold pairsT at e
    cases e
    exact ⟨[], [], rfl, .nil, .nil⟩
  | _, _, kvs, .cons (ds := ds) x h, e => by
    unfold pairsT at e
    split at e
    · rename_i e0; cases e0
    · rename_i k v r e0
      cases e0
      split at e
      · rename_i hk
        obtain ⟨qs, e', rfl⟩ := mapS e
        obtain ⟨ps, ks, rfl, h1, h2⟩ := pairs_atX (K := K) h e'
        obtain ⟨kk, rfl⟩ := keyOk_t hk
        cases x with
        | tup i rr q =>
          cases q with
          | cons q1 q =>
            cases q with
            | cons q2 q =>
              cases q
              cases q1 with
              | tup i1 r1 q3 =>
                obtain ⟨rfl, _⟩ := q3.ints (allInts_keys kk)
                exact ⟨_ :: ps, (kk, _, _) :: ks, rfl, .cons ⟨rr.sq, r1⟩ h1, .cons i1 r1 q2 h2⟩
      · cases e
    · cases e
end
theorem Fin.dctX {W0 W : Wd} {H0 H : Hp} {st : Store} {kvs : List (PyData × PyData)} {Q : V → Hp → Prop} (f : Fin W0 H0 st (.newD true kvs) Q) (n : Now W0 H0 W st H) {ks : List (List Int × Addr × V)} (r : DvKt W.im H ks kvs) {p : Addr} (hp : H p = none) : Q (.ref p) (upd H p (dxO p ks)) :=
  f W _ _ (n.x.trans (Ext.lay hp)) (n.g.lay hp) ⟨p, rfl, Loose.lay n.g hp, n.x.fresh hp, ks, upd_same, r.mono (fun _ h => h) fun a o _ e => by
    by_cases z : a = p
    · rw [z, hp] at e
      cases e
    · rw [upd_ne z]
      exact e⟩
theorem rG_dofT {Ef : L2.St → FX} {σ : L2.St} {H : Hp} {Q : V → Hp → Prop} {K : PySem.W.Frag} {m : Env → M D} (h : rG Ef DR (fun ρ => do
    let x ← m ρ
    let u ← look x
    match u with
    | .list xs => do
      let kvs ← ofO (pairsT xs)
      pure (.newD true (dPuts [] kvs))
    | _ => fail) σ H Q) : tCB (rDictX K) (tCons (rG Ef DR m) tNil) σ H Q := by
  obtain ⟨W, ρ, st, er, h'⟩ := rG_then h
  refine ⟨W, ρ, st, er, h'.mono ?_⟩
  rintro v H1 ⟨W', ρ', d, W1, st1, _, x1, r1, h1⟩
  obtain ⟨u, hu, h2⟩ := h1.look r1
  cases u with
  | list ds =>
    obtain ⟨a, vs, rfl, r, q⟩ := hu
    obtain ⟨kvs, e, h3⟩ := h2.ofO
    obtain ⟨ps, ks, rfl, k1, k2⟩ := pairs_atX (K := K) q e
    exact ⟨a, ps, ks, rfl, .inl r, k1, fun p hp => Fin.dctX (W0 := W') (H0 := H) (st := st1) (W := W1) h3.pure ⟨h3.1, h3.2.1⟩ (puts_t _ k2 .nil) hp⟩
  | _ => exact h2.fail.elim
end MP
end MDct

section MSet
set_option Elab.async false
set_option linter.all false
set_option maxRecDepth 100000
set_option autoImplicit false
namespace MP
open PySem PySem.Spec PyProof.Rows L2
/-! sorted(set(l)) of whole numbers; d.update(e). -/
section
variable {P : Program} {w : World} {A : Around} {E : Value → Shared → Prop} {s : Shared}
abbrev set0 (w : World) : Obj := { cls := .type "set", dict := none, data := .set #[] 0 (.fresh 0 0 (!w.params.followText "set-order")) }
set_option maxHeartbeats 3200000 in
theorem set_of_list {l : Addr} {items : Array Value} (ns : List Int) {Q : Value → Shared → Prop} (hh : A.handled = none) (hl : s.heap.IsList l items) (hit : IntsAre items.toList ns) (hb : ns.length + 1 < scanBound)
    (h : ∀ (h' : Heap) (tk c : Nat), SetR w h' s.heap.objs.size (fun j => decide (j ∈ ns)) c → c ≤ ns.length → (∀ b o, s.heap.get? b = some o → h'.get? b = some o) → Q (.ref s.heap.objs.size) { s with heap := h', toks := tk }) :
    wpAny (model P w) A (call (.type "set") [.ref l]) Q E s := by
  have hsz : items.size = ns.length := by rw [← IntsAre.length hit, Array.length_toList]
  obtain ⟨c, tl, hmro⟩ := F.called_set.mro
  have hmade := F.called_set.made
  have hsub := F.called_set.sub
  refine wpAny_call (codeAny_of_tree ?_)
  show wpAny _ _ (callAny (.type "set") _) _ _ _
  refine wpAny_pure ⟨Code.quiet_builtin _ (by decide +kernel), codeAny_builtin F.entry_type_call ?_⟩
  rw [Around.under_plain (weight_type_call_type "set" [.ref l] []) rfl]
  have h1 := F.called_set.notType
  have h2 := F.called_set.canCreate
  have hct := F.typeCall_set_1 (.ref l)
  repeat (any_goals (first | assumption | wp_step))
  refine codeAny_mono (code_set_led1 (.ref l) (E := E) (Q₁ := fun obj s₁ => obj = .ref s.heap.objs.size ∧ s₁ = { s with heap := s.heap.push (set0 w) }) ⟨rfl, rfl⟩) fun r s₁ hr => ?_
  cases r with
  | error e => exact hr
  | ok fl =>
    cases fl with
    | ret obj =>
      obtain ⟨rfl, rfl⟩ := hr
      have hS : (s.heap.push (set0 w)).get? s.heap.objs.size = some (set0 w) := Heap.get?_push_size _ rfl
      have hT : Shared.TypeIs { s with heap := s.heap.push (set0 w) } (.ref s.heap.objs.size) "set" := ⟨_, hS, rfl⟩
      have hli := F.called_set.init.lookup
      have hbi := F.called_set.init.bind (.ref s.heap.objs.size)
      repeat (any_goals (first | assumption | wp_step))
      refine codeAny_mono (codeAny_call_builtin (R := wants (fun r s₂ => r = .none ∧ ∃ h' tk c, s₂ = { s with heap := h', toks := tk } ∧ SetR w h' s.heap.objs.size (fun j => decide (j ∈ ns)) c ∧ c ≤ ns.length ∧ (∀ b o, s.heap.get? b = some o → h'.get? b = some o)) E)
        F.called_set.init.plain F.entry_set_init (check_set_init_1 hT ?_)) fun r₂ s₂ hr₂ => ?_
      · have hl1 : (s.heap.push (set0 w)).IsList l items := by
          obtain ⟨o, ho, r⟩ := hl
          exact ⟨o, Heap.get?_push_of_some _ ho, r⟩
        have hlS : l < s.heap.objs.size := by
          obtain ⟨o, ho, _⟩ := hl
          exact Heap.lt_size ho
        obtain ⟨ol, hol, hcl, nl, hdl⟩ := id hl1
        have hTl : ∀ d g t o, Shared.TypeIs ⟨s.heap.push (set0 w), g, d, t, o⟩ (.ref l) "list" := fun _ _ _ _ => ⟨_, hol, hcl⟩
        have n1 := F.sub_list_set
        have n2 := F.sub_list_frozenset
        have n3 : (Value.type "list" == Value.type "dict") = false := by decide
        obtain ⟨ocls, odict, odata, oslots⟩ := ol
        simp only at hcl hdl
        subst hcl
        subst hdl
        unfold Builtin.«set.__init__» noKeywords Builtin.Frozenset.updateFrom
        generalize hPI : pyIter = PI
        wp_walk
        subst hPI
        refine wpAny_pyIter_list hl1 (wpAny_bind (wpAny_runValue ?_))
        have z1 : (s.heap.push (set0 w)).objs.size = s.heap.objs.size + 1 := Heap.size_push ..
        have hlI : l ≠ (s.heap.push (set0 w)).objs.size := by rw [z1]; exact Nat.ne_of_lt (Nat.lt_succ_of_lt hlS)
        have hSf : s.heap.objs.size ∉ [(s.heap.push (set0 w)).objs.size, l] := by
          rw [z1]
          intro hm
          rcases List.mem_cons.mp hm with e | hm
          · exact Nat.ne_of_lt (Nat.lt_succ_self _) e
          · exact Nat.ne_of_gt hlS (List.mem_singleton.mp hm)
        have hval : ∀ (i : Nat) (v : Value), items[i]? = some v → ∃ k t, ns[i]? = some k ∧ v = .int k t := fun i v hv => by
          have hi : i < ns.length := by rw [← hsz]; exact (Array.getElem?_eq_some_iff.mp hv).1
          obtain ⟨t, e⟩ := IntsAre.int_at hit i v (by rw [Array.getElem?_toList]; exact hv)
          refine ⟨ns[i], t, List.getElem?_eq_getElem hi, ?_⟩
          rw [e, List.getD_eq_getElem?_getD, List.getElem?_eq_getElem hi]
          rfl
        refine set_update_ints ((Walks.list (by simp [hh]) _ l hlI items).toS) s.heap.objs.size hSf ns hsz hb hval (items.size - 0) 0 _ (by omega) (Nat.zero_le _) ⟨⟨_, Heap.get?_push_size _ rfl, rfl, rfl⟩, hl1.push _⟩ ⟨0, Nat.le_refl 0, setR_new_at (Heap.get?_push_of_some _ hS)⟩ fun s' c' hm hc' hS' => ?_
        obtain ⟨h', g2, d', tk', os'⟩ := s'
        have eg : g2 = s.gens := hm.gens
        have ed : d' = s.drawn := hm.drawn
        have eo : os' = s.os := hm.os
        subst eg
        subst ed
        subst eo
        refine wpAny_pure (wpAny_pure ⟨rfl, h', tk', c', rfl, hS', by rw [← hsz]; exact hc', fun b o e => ?_⟩)
        have hb0 : b < s.heap.objs.size := Heap.lt_size e
        refine hm.heap b o (fun hmem => ?_) (Heap.get?_push_of_some _ (Heap.get?_push_of_some _ e))
        rcases List.mem_cons.mp hmem with e1 | e1
        · exact Nat.ne_of_lt hb0 e1
        · exact Nat.ne_of_lt (Nat.lt_succ_of_lt hb0) ((List.mem_singleton.mp e1).trans z1)
      · cases r₂ with
        | error e => exact hr₂
        | ok fl₂ =>
          cases fl₂ with
          | ret r =>
            obtain ⟨rfl, h', tk, c', rfl, k1, k2, k3⟩ := hr₂
            repeat (any_goals (first | assumption | wp_step))
            exact h _ _ _ k1 k2 k3
          | _ => exact hr₂.elim
    | _ => exact hr.elim
end
end MP
end MSet

section MSeu
set_option Elab.async false
set_option linter.all false
set_option maxRecDepth 100000
set_option autoImplicit false
namespace MP
open PySem PySem.Spec PyProof.Rows L2
variable [Cla]
theorem asc_eq : ∀ {a b : List Int}, a.Pairwise (· < ·) → b.Pairwise (· < ·) → (∀ k, k ∈ a ↔ k ∈ b) → a = b
  | [], [], _, _, _ => rfl
  | [], y :: b, _, _, h => nomatch (h y).mpr (List.mem_cons_self ..)
  | x :: a, [], _, _, h => nomatch (h x).mp (List.mem_cons_self ..)
  | x :: a, y :: b, ha, hb, h => by
    obtain ⟨a1, a2⟩ := List.pairwise_cons.mp ha
    obtain ⟨b1, b2⟩ := List.pairwise_cons.mp hb
    have e : x = y := by
      rcases List.mem_cons.mp ((h x).mp (List.mem_cons_self ..)) with e | e
      · exact e
      · rcases List.mem_cons.mp ((h y).mpr (List.mem_cons_self ..)) with e2 | e2
        · exact e2.symm
        · have := b1 x e
          have := a1 y e2
          omega
    subst e
    rw [asc_eq a2 b2 fun k => ?_]
    constructor
    · intro hk
      rcases List.mem_cons.mp ((h k).mp (List.mem_cons_of_mem _ hk)) with e | e
      · have := a1 k hk
        omega
      · exact e
    · intro hk
      rcases List.mem_cons.mp ((h k).mpr (List.mem_cons_of_mem _ hk)) with e | e
      · have := b1 k hk
        omega
      · exact e
theorem insU_mem {x z : Int} : ∀ {l : List Int}, z ∈ insU x l ↔ z = x ∨ z ∈ l
  | [] => by simp [insU]
  | y :: l => by
    unfold insU
    split
    · exact List.mem_cons
    · split
      · rename_i h1 h2
        subst h2
        simp
      · rw [List.mem_cons, List.mem_cons, insU_mem]
        constructor
        · rintro (h | h | h) <;> simp [h]
        · rintro (h | h | h) <;> simp [h]
theorem insU_up {x : Int} : ∀ {l : List Int}, l.Pairwise (· < ·) → (insU x l).Pairwise (· < ·)
  | [], _ => by simp [insU]
  | y :: l, h => by
    obtain ⟨h1, h2⟩ := List.pairwise_cons.mp h
    unfold insU
    split
    · rename_i c
      refine List.pairwise_cons.mpr ⟨fun z hz => ?_, h⟩
      rcases List.mem_cons.mp hz with e | e
      · omega
      · have := h1 z e
        omega
    · split
      · exact h
      · refine List.pairwise_cons.mpr ⟨fun z hz => ?_, insU_up h2⟩
        rcases insU_mem.mp hz with e | e
        · omega
        · exact h1 z e
theorem sset_mem {z : Int} : ∀ {l : List Int}, z ∈ sset l ↔ z ∈ l
  | [] => by simp [sset]
  | x :: l => by
    show z ∈ insU x (sset l) ↔ _
    rw [insU_mem, sset_mem, List.mem_cons]
theorem sset_up : ∀ (l : List Int), (sset l).Pairwise (· < ·)
  | [] => .nil
  | x :: l => insU_up (sset_up l)
section
variable {X : Cx}
def rOfListI (K : PySem.W.Frag) (w : World) : List V → Hp → VK → Prop := fun xs H Q => ∃ (a : Addr) (ns : List Int), xs = [.ref a] ∧ SqL K H a (ns.map V.int) ∧ ns.length < 64 ∧ ∀ p c, H p = none → c ≤ ns.length → Q (.ref p) (upd H p (SetO w p (fun j => decide (j ∈ ns)) c))
theorem cr_setL (hcalm : X.calm = true) : CallR X (.type "set") (rOfListI X.K X.w) := by
  intro pins s σ H xs us Q I r q
  obtain ⟨a, ns, ex, hq, h64, q⟩ := q
  subst ex
  obtain ⟨u, eu, rx⟩ := vals1 r
  subst eu
  cases rx
  obtain ⟨its, rv, ⟨o, n, ho, hc, hd, hdat⟩, hz⟩ := I.list hq
  have hi := ints_of_vals rv
  refine set_of_list (w := X.w) (P := X.prog) ns (I.ok.hd hcalm) ⟨o, ho, hc, n, hdat⟩ (by simpa using hi) (Nat.lt_of_lt_of_le (show ns.length + 1 < 65 by omega) (by decide +kernel)) fun h' tk c R hc' k => ?_
  exact ⟨.ref s.heap.objs.size, _, I.laid (t' := tk) k (Nat.le_refl _) (setO_new R), rfl, q _ _ (I.hok.fresh (Nat.le_refl _)) hc'⟩
end
theorem rG_sset {Ef : L2.St → FX} {σ : L2.St} {H : Hp} {Q : V → Hp → Prop} {K : PySem.W.Frag} {w : World} {m : Env → M D} (h : rG Ef DR (fun ρ => do
    let x ← m ρ
    let u ← look x
    match u with
    | .list xs => do
      let ns ← ofO (allInts xs)
      guardB (decide (ns.length < 64))
      pure (.newL ((sset ns).map .int))
    | _ => fail) σ H Q) : tCB (rSortedSet w) (tCons (tCB (rOfListI K w) (tCons (rG Ef DR m) tNil)) tNil) σ H Q := by
  obtain ⟨W, ρ, st, er, h'⟩ := rG_then h
  refine ⟨W, ρ, st, er, h'.mono ?_⟩
  rintro v H1 ⟨W', ρ', d, W1, st1, _, x1, r1, h1⟩
  obtain ⟨u, hu, h2⟩ := h1.look r1
  cases u with
  | list ds =>
    obtain ⟨a, vs, rfl, r, q⟩ := hu
    obtain ⟨ns, e, h3⟩ := h2.ofO
    obtain ⟨hg, h4⟩ := h3.guard
    have hg := of_decide_eq_true hg
    obtain ⟨rfl, _⟩ := q.ints e
    refine ⟨a, ns, rfl, .inl r, hg, fun p c hp hc => ⟨p, _, c, rfl, upd_same, by omega, fun ns' p' up mem len hp' => ?_⟩⟩
    have en : ns' = sset ns := asc_eq up (sset_up ns) fun k => by rw [mem k, sset_mem, decide_eq_true_eq]
    rw [en]
    exact Fin.lst (W0 := W') (H0 := H) (st := st1) (W := W1) h4.pure ⟨h4.1.trans (Ext.lay hp), h4.2.1.lay hp⟩ (DvAll.of_ints _) hp'
  | _ => exact h2.fail.elim
/-! ### d.update(e) -/
def rUpdD : V → List V → Hp → VK → Prop := fun x vs H Q => ∃ (d o : Addr) (kvs more : List (Key × V)), x = .ref d ∧ vs = [.ref o] ∧ d ≠ o ∧ H d = some (.dK kvs) ∧ H o = some (.dK more) ∧ kvs.length + more.length ≤ sizeLine ∧ Q .non (upd H d (.dK (mergeK kvs more)))
theorem mt_upd {X : Cx} : MtR X "dict.update" rUpdD := by
  intro pins s σ H x xs v us Q I rx rv h
  obtain ⟨d, o, kvs, more, rfl, rfl, hdo, hd, ho, hz, q⟩ := h
  cases rx
  obtain ⟨u, rfl, ru⟩ := rv.one
  cases ru
  obtain ⟨z1, y1, vs1, rel1, dd1⟩ := dk_of I.hok hd
  obtain ⟨z2, y2, vs2, rel2, dd2⟩ := dk_of I.hok ho
  refine call_meetsIn PySem.F.slot_dict_update dd1.typeIs PySem.F.entry_dict_update (PySem.F.args_dict_update_2 _ _) (meets_dict_update (mixKind X.prog X.w) d o hdo y2) ⟨vs1, vs2, dd1, dd2, by rw [← rel1.length, ← rel2.length]; exact hz, fun h' d1 d2 hs => ?_⟩
  have he : ∃ q, h'.get? d = some q := let ⟨q, _, _, hq, _⟩ := d1; ⟨q, hq⟩
  exact ⟨.non, _, d_write (t' := s.toks) I (by rw [hd]; exact True.intro) hs he (dk_new (Nat.le_trans (length_mergeK more kvs) hz) y1 (KV.merge rel2 rel1) d1), rfl, q⟩
theorem At.lookDR {Fx : FX} {α β : Type} {R : Hp → Wd → Hp → β → α → Prop} {W0 W : Wd} {H0 H : Hp} {st : Store} {Q : β → Hp → Prop} {i : Nat} {a : Addr} {k : Bool × List (PyData × PyData) → M α} (h : At Fx W0 H0 R (MP.lookDict (.ref i) >>= k) W H st Q) (ha : W.eta[i]? = some a) :
    ∃ t kvs, ¬ W.im a ∧ DictOk W.im H a t kvs ∧ At Fx W0 H0 R (k (t, kvs)) W H st Q := by
  obtain ⟨x, g, w⟩ := h
  rw [wp_bind] at w
  obtain ⟨t, kvs, hx, w⟩ := wp_lookDR.mp w
  obtain ⟨n, d⟩ := g.cells i _ a hx ha
  exact ⟨t, kvs, n, d, x, g, w⟩
theorem rG_upd {Ef : L2.St → FX} {σ : L2.St} {H : Hp} {Q : V → Hp → Prop} {K : PySem.W.Frag} {ma mx : Env → M D} (h : rG Ef DR (fun ρ => do
    let p ← ma ρ
    let i ← refOf p
    let b ← lookDict (.ref i)
    guardB (!b.1)
    let y ← mx ρ
    let j ← refOf y
    let e ← lookDict (.ref j)
    let c ← lookDict (.ref i)
    guardB (!c.1 && !e.1 && decide (i ≠ j) && decide (c.2.length + e.2.length ≤ LIM))
    putCell i (.dct false (dPuts c.2 e.2))
    pure (.dat .none)) σ H Q) : tBM K "dict" rUpdD (rG Ef DR ma) (tCons (rG Ef DR mx) tNil) σ H Q := by
  obtain ⟨W, ρ, st, er, h⟩ := h
  refine ⟨W, ρ, st, er, (At.bind (R1 := DR) h).mono ?_⟩
  rintro o H1 ⟨p, W1, st1, x1, r1, h1⟩
  obtain ⟨i, a, rfl, ha, rfl, h2⟩ := h1.refOf r1
  obtain ⟨t1, kv1, _, k1, h3⟩ := h2.lookDR ha
  obtain ⟨g1, h4⟩ := h3.guard
  cases t1 with
  | true => cases g1
  | false =>
    obtain ⟨ks1, e1, _⟩ := k1
    refine ⟨.inr (.inr (.inl ⟨rfl, .inl ⟨ks1, e1⟩⟩)), W1, ρ, st1, er.mono x1, (At.bind (R1 := DR) h4).mono ?_⟩
    rintro y H2 ⟨dy, W2, st2, x2, r2, h5⟩
    obtain ⟨j, b, rfl, hb, rfl, h6⟩ := h5.refOf r2
    obtain ⟨t2, kv2, _, k2, h7⟩ := h6.lookDR hb
    have ha2 : W2.eta[i]? = some a := x2.at ha
    have hgd := h7.2.1
    obtain ⟨t3, kv3, hm, k3, h8⟩ := h7.lookDR ha2
    obtain ⟨g2, h9⟩ := h8.guard
    simp only [Bool.and_eq_true, Bool.not_eq_true', decide_eq_true_eq] at g2
    obtain ⟨⟨⟨g3, g4⟩, g5⟩, g6⟩ := g2
    subst g3
    subst g4
    obtain ⟨ks, f1, q1⟩ := k3
    obtain ⟨more, f2, q2⟩ := k2
    have hne : a ≠ b := fun z => by
      subst z
      have hi := (List.getElem?_eq_some_iff.mp ha2)
      have hj := (List.getElem?_eq_some_iff.mp hb)
      obtain ⟨l1, z1⟩ := hi
      obtain ⟨l2, z2⟩ := hj
      exact g5 ((List.getElem_inj hgd.nd).mp (z1.trans z2.symm))
    refine ⟨a, b, ks, more, rfl, rfl, hne, f1, f2, by rw [(dvKv_p q1).length, (dvKv_p q2).length, sizeLine_eq]; exact g6, ?_⟩
    have h10 := h9.putCell (o := .dK (mergeK ks more)) ha2 hm ⟨hm, mergeK ks more, upd_same, p_dvKv (pimp (merge_p (dvKv_p q2) (dvKv_p q1)) fun p q z => ⟨z.1, z.2.write hm⟩)⟩
    exact h10.pure _ _ _ h10.1 h10.2.1 .non
end MP
end MSeu

section MExc
set_option Elab.async false
set_option linter.all false
set_option maxRecDepth 100000
set_option autoImplicit false
set_option maxHeartbeats 2000000
/-! MExc: exceptions of the program's own classes as values: fields, isinstance, is None. -/
namespace MP
open PySem PySem.Spec PyProof.Rows L2
variable [Cla]
variable {Ef : L2.St → FX} {Fx : FX}
theorem exb_at {P : Program} {w : World} {H : Hp} {h : Heap} {a C : Addr} {d : Option Addr} (hok : HOk P w H h) (he : H a = some (exb a C d)) : ∃ (oe : Obj) (vs : Array Value), h.get? a = some oe ∧ oe.cls = .ref C ∧ oe.dict = d ∧ oe.data = .fields vs := by
  have x : ObjOk P w H h a (.ext fun h => ∃ (oe : Obj) (vs : Array Value), h.get? a = some oe ∧ oe.cls = .ref C ∧ oe.dict = d ∧ oe.data = .fields vs) := hok a _ he
  exact x.1
theorem exb_ok {P : Program} {w : World} {H : Hp} {h : Heap} {a C : Addr} {d : Option Addr} {oe : Obj} {vs : Array Value} (h1 : h.get? a = some oe) (h2 : oe.cls = .ref C) (h3 : oe.dict = d) (h4 : oe.data = .fields vs) : ObjOk P w H h a (exb a C d) :=
  ⟨⟨oe, vs, h1, h2, h3, h4⟩, ⟨_, h1⟩, fun h1 h2 z k => by
    obtain ⟨oe, vs, e1, e2, e3, e4⟩ := z
    exact ⟨oe, vs, k _ e1, e2, e3, e4⟩⟩
section
variable {X : Cx} {Cs : List Nat}
/-- e.f, e an exception that is known -/
def tExF (K : PySem.W.Frag) (mg : Str → Option Value) (Cs : List Nat) (n : Str) (te : TE) : TE := fun σ H Q => te σ H fun x H1 => ∃ (a : Addr) (c : Nat) (dd : Addr) (ks : List (Str × V)) (v : V), x = .ref a ∧ ClsOk K mg Cs c ∧ H1 a = some (exb a (Cla.a c) (some dd)) ∧ H1 dd = some (.xd ks) ∧ ks.lookup n = some v ∧ Q v H1
theorem pe_exF {e : Expr} {te : TE} {pos : Pos} {n : Str} (hn : n ∈ fldNms) (he : PE X e te) (hb : attributeBase e n X.env (eval e X.env) = eval e X.env) : PE X (.Attribute e n pos) (tExF X.K X.mg Cs n te) := by
  refine ⟨fun pins s σ H Q I h => ?_⟩
  refine attr_of hb (thn (he.run pins s σ H _ I h) fun u s1 hh => ?_)
  obtain ⟨x, H1, I1, rx, a, c, dd, ks, v, ex, k, ea, ed, l, q⟩ := hh
  subst ex
  obtain rfl : u = Value.ref a := rx
  obtain ⟨oe, vs, h1, h2, h3, h4⟩ := exb_at I1.hok ea
  have hx : ObjOk X.prog X.w H1 s1.heap dd (.xd ks) := I1.hok dd _ ed
  obtain ⟨mA, hns, hr⟩ := hx
  obtain ⟨od, ho, hl⟩ := lookIn_ns hns
  obtain ⟨u, hu, ru⟩ := RelO.some_of (v := v) (o := mA n) (by rw [← l]; exact hr n)
  have J : PySem.W.InstAt s1.heap a oe (Cla.a c) (some od) := ⟨h1, h2, by unfold PySem.W.notCls; rw [h4] <;> rfl, by rw [h3]; exact ho⟩
  exact HandSPX.exc_get I1.kIn J k.ga k.gg k.exC (PySem.W.findObj_own k.hdC (k.fl n hn) rfl (by rw [hl, hu])) (handed_of ru) ⟨v, H1, I1.tok _, ru, q⟩
/-- an exception known, its dict too -/
def ExKn (H : Hp) (a : Addr) (c : Nat) : Prop := ∃ d, H a = some (exb a (Cla.a c) d) ∧ (d = none ∨ ∃ dd ks, d = some dd ∧ H dd = some (.xd ks))
theorem ex_inst {pins : List (Addr × Obj)} {σ : L2.St} {H : Hp} {s : Shared} {a : Addr} {c : Nat} (I : Inv X pins σ H s) (k : ExKn H a c) : ∃ oe od, PySem.W.InstAt s.heap a oe (Cla.a c) od := by
  obtain ⟨d, ea, hd⟩ := k
  obtain ⟨oe, vs, h1, h2, h3, h4⟩ := exb_at I.hok ea
  rcases hd with rfl | ⟨dd, ks, rfl, ed⟩
  · exact ⟨oe, none, h1, h2, by unfold PySem.W.notCls; rw [h4] <;> rfl, by rw [h3]; trivial⟩
  · obtain ⟨mA, hns, hr⟩ := (show ObjOk X.prog X.w H s.heap dd (.xd ks) from I.hok dd _ ed)
    obtain ⟨od, ho, hl⟩ := lookIn_ns hns
    exact ⟨oe, some od, h1, h2, by unfold PySem.W.notCls; rw [h4] <;> rfl, by rw [h3]; exact ho⟩
def rIsE1 (K : PySem.W.Frag) (mg : Str → Option Value) (Cs : List Nat) : List V → Hp → VK → Prop := fun xs H Q => ∃ (a : Addr) (c : Nat) (y : V) (u : Value) (b : Bool), xs = [.ref a, y] ∧ ClsV y u ∧ ExKn H a c ∧ ClsOk K mg Cs c ∧ PySem.W.kitOne K (.ref (Cla.a c)) u = some b ∧ Q (.bl b) H
def rIsE2 (K : PySem.W.Frag) (mg : Str → Option Value) (Cs : List Nat) : List V → Hp → VK → Prop := fun xs H Q => ∃ (a tp : Addr) (c : Nat) (cs : List V) (us : List Value) (b : Bool), xs = [.ref a, .ref tp] ∧ H tp = some (.tup cs) ∧ Paired ClsV cs us ∧ ExKn H a c ∧ ClsOk K mg Cs c ∧ PySem.W.kitAny K (.ref (Cla.a c)) us = some b ∧ Q (.bl b) H
theorem call_isE1 : CallR X (.builtin "isinstance") (rIsE1 X.K X.mg Cs) := by
  intro pins s σ H xs us Q I r h
  obtain ⟨a, c, y, u, b, rfl, k, kn, ok, e, q⟩ := h
  obtain ⟨u1, u2, rfl, r1, r2⟩ := vals2 r
  cases (show u1 = Value.ref a from r1)
  have e2 := k.eq r2
  subst e2
  obtain ⟨oe, od, J⟩ := ex_inst I kn
  exact PySem.W.kia_one (PySem.W.kitx_exc ok.isC ok.ga ok.gg ok.exC ok.ca ok.cn ok.ct ok.cm) I.kIn J e (fun z => nomatch z) fun tk => ⟨.bl b, H, I.tok tk, rfl, q⟩
theorem call_isE2 : CallR X (.builtin "isinstance") (rIsE2 X.K X.mg Cs) := by
  intro pins s σ H xs us Q I r h
  obtain ⟨a, tp, c, cs, ws, b, rfl, hT, k, kn, ok, e, q⟩ := h
  obtain ⟨u1, u2, rfl, r1, r2⟩ := vals2 r
  cases (show u1 = Value.ref a from r1)
  cases (show u2 = Value.ref tp from r2)
  obtain ⟨oe, od, J⟩ := ex_inst I kn
  obtain ⟨_, its, rv, o, h1, h2, n, h3⟩ := (show ObjOk X.prog X.w H s.heap tp (.tup cs) from I.hok tp _ hT)
  have e3 := ClsV.all k rv
  subst e3
  obtain ⟨oc, od2, dt, sl⟩ := o
  simp only at h2 h3
  subst h2 h3
  exact PySem.W.kia_tup (PySem.W.kitx_exc ok.isC ok.ga ok.gg ok.exC ok.ca ok.cn ok.ct ok.cm) I.kIn J h1 e (fun z => nomatch z) fun tk => ⟨.bl b, H, I.tok tk, rfl, q⟩
end
/-! ### what the classes tell -/
section
variable {K : PySem.W.Frag} {mg : Str → Option Value} {Cs : List Nat} {c c' : Nat}
theorem ClsOk.kit (k : ClsOk K mg Cs c) (k' : ClsOk K mg Cs c') (h : c' ∈ Cs) : PySem.W.kitOne K (.ref (Cla.a c)) (.ref (Cla.a c')) = some (subC c c') := by
  unfold PySem.W.kitOne
  by_cases e : c = c'
  · subst e
    rw [if_pos (by simp)]
    unfold subC
    rw [decide_eq_true (rfl : c = c), Bool.or_true]
  · have ne := k.ne c' h e
    rw [if_neg (by simp [ne])]
    unfold PySem.W.kitCls
    have e2 : ((PySem.W.clsIn K (Cla.a c')).isSome && PySem.W.typeIn K (.ref (Cla.a c')) == some (.type "type")) = true := by rw [k'.isC, k'.tyC] <;> rfl
    show (if ((PySem.W.clsIn K (Cla.a c')).isSome && PySem.W.typeIn K (.ref (Cla.a c')) == some (.type "type")) = true then PySem.W.subIn K (.ref (Cla.a c)) (.ref (Cla.a c')) else none) = _
    rw [if_pos e2]
    exact k.sub c' h
theorem ClsOk.kitVE (k : ClsOk K mg Cs c) : PySem.W.kitOne K (.ref (Cla.a c)) (.type "ValueError") = some true := by
  unfold PySem.W.kitOne
  rw [if_neg (by simp)]
  show (if PySem.W.kitMeta "ValueError" = true then PySem.W.subIn K (.ref (Cla.a c)) (.type "ValueError") else none) = _
  rw [if_pos (by decide +kernel)]
  exact k.ve
theorem ClsOk.kits (k : ClsOk K mg Cs c) (hC : ∀ c ∈ Cs, ClsOk K mg Cs c) : ∀ {cs : List Nat}, (∀ c' ∈ cs, c' ∈ Cs) → PySem.W.kitAny K (.ref (Cla.a c)) (cs.map fun c' => .ref (Cla.a c')) = some (cs.any (subC c))
  | [], _ => rfl
  | c' :: cs, h => by
    have h1 := h c' (List.mem_cons_self ..)
    have e := k.kit (hC c' h1) h1
    rw [List.map_cons, List.any_cons]
    unfold PySem.W.kitAny
    rw [e]
    cases q : subC c c' with
    | true => rfl
    | false =>
      rw [Bool.false_or]
      exact ClsOk.kits k hC fun y hy => h y (List.mem_cons_of_mem _ hy)
theorem ClsOk.exm (k : ClsOk K mg Cs c) (k' : ClsOk K mg Cs c') (h : c' ∈ Cs) : PySem.W.exmOne K (.ref (Cla.a c)) (.ref (Cla.a c')) = some (subC c c') :=
  PySem.W.exm_ref k'.exC k'.hdC k'.tyC (k.sub c' h)
end
/-! ### readings -/
theorem wp_excAt {Xp : Exc → Store → Prop} {i : Nat} {st : Store} {P : Exc → Store → Prop} : wp Xp (excAt i) st P ↔ ∃ x, st[i]? = some (.exc x) ∧ P x st := by
  unfold wp excAt
  cases q : st[i]? with
  | none => simp [q]
  | some c => cases c <;> simp [q]
section
variable {α β : Type} {W0 W : Wd} {H0 H : Hp} {R : Hp → Wd → Hp → β → α → Prop} {st : Store} {Q : β → Hp → Prop}
theorem At.excAt {i : Nat} {a : Addr} {k : Exc → M α} (h : At Fx W0 H0 R (MP.excAt i >>= k) W H st Q) (ha : W.eta[i]? = some a) : ∃ x d, Cla.ok x.cls = true ∧ H a = some (exb a (Cla.a x.cls) d) ∧ FldR W.im H d x.fs ∧ At Fx W0 H0 R (k x) W H st Q := by
  obtain ⟨xx, g, w⟩ := h
  rw [wp_bind] at w
  obtain ⟨x, hx, w⟩ := wp_excAt.mp w
  obtain ⟨_, ok, d, e, r⟩ := (show CellOk W H a (.exc x) from g.cells i _ a hx ha)
  exact ⟨x, d, ok, e, r, xx, g, w⟩
end
theorem ExKn.of {W : Wd} {H : Hp} {a : Addr} {x : Exc} {d : Option Addr} (e : H a = some (exb a (Cla.a x.cls) d)) (r : FldR W.im H d x.fs) : ExKn H a x.cls := by
  rcases r with ⟨_, h⟩ | ⟨dd, ks, h, _, z, _⟩
  · exact ⟨d, e, .inl h⟩
  · exact ⟨d, e, .inr ⟨dd, ks, h, z⟩⟩
section
variable {σ : L2.St} {H : Hp} {Q : V → Hp → Prop} {K : PySem.W.Frag} {mg : Str → Option Value} {Cs : List Nat} {m : Env → M D}
theorem rG_exF {f : Str} (hk : ∀ c, Cla.ok c = true → ClsOk K mg Cs c) (h : rG Ef DR (fun ρ => do
    let x ← m ρ
    let i ← refOf x
    let e ← excAt i
    let d ← ofO (e.fs.lookup f)
    pure (.dat d)) σ H Q) : tExF K mg Cs f (rG Ef DR m) σ H Q := by
  obtain ⟨W, ρ, st, er, h'⟩ := rG_then h
  refine ⟨W, ρ, st, er, h'.mono ?_⟩
  rintro v H1 ⟨W', ρ', d, W1, st1, _, x1, r1, h1⟩
  obtain ⟨i, a, rfl, ha, rfl, h2⟩ := h1.refOf r1
  obtain ⟨x, dd, ok, e, r, h3⟩ := h2.excAt ha
  obtain ⟨y, hy, h4⟩ := h3.ofO
  rcases r with ⟨e0, _⟩ | ⟨d2, ks, rfl, _, z, q⟩
  · rw [e0] at hy
    cases hy
  · obtain ⟨v, l, dv⟩ := q f y hy
    exact ⟨a, x.cls, d2, ks, v, rfl, hk _ ok, e, z, l, h4.pure _ _ _ h4.1 h4.2.1 dv⟩
theorem rG_exI1 {c' : Nat} (hk : ∀ c, Cla.ok c = true → ClsOk K mg Cs c) (hc : c' ∈ Cs) (hok : ClsOk K mg Cs c') (h : rG Ef DR (fun ρ => do
    let x ← m ρ
    let i ← refOf x
    let e ← excAt i
    pure (.dat (.bool ([c'].any (subC e.cls))))) σ H Q) : tCB (rIsE1 K mg Cs) (tCons (rG Ef DR m) (tCons (tC (.ref (Cla.a c'))) tNil)) σ H Q := by
  obtain ⟨W, ρ, st, er, h'⟩ := rG_then h
  refine ⟨W, ρ, st, er, h'.mono ?_⟩
  rintro v H1 ⟨W', ρ', d, W1, st1, _, x1, r1, h1⟩
  obtain ⟨i, a, rfl, ha, rfl, h2⟩ := h1.refOf r1
  obtain ⟨x, dd, ok, e, r, h3⟩ := h2.excAt ha
  have e1 : ([c'].any (subC x.cls)) = subC x.cls c' := by simp
  rw [e1] at h3
  exact ⟨a, x.cls, _, _, _, rfl, .own _, .of e r, hk _ ok, (hk _ ok).kit hok hc, h3.pure _ _ _ h3.1 h3.2.1 (.bl _)⟩
theorem rG_exV (hk : ∀ c, Cla.ok c = true → ClsOk K mg Cs c) (h : rG Ef DR (fun ρ => do
    let x ← m ρ
    let i ← refOf x
    let _ ← excAt i
    pure (.dat (.bool true))) σ H Q) : tCB (rIsE1 K mg Cs) (tCons (rG Ef DR m) (tCons (tC (.ty "ValueError")) tNil)) σ H Q := by
  obtain ⟨W, ρ, st, er, h'⟩ := rG_then h
  refine ⟨W, ρ, st, er, h'.mono ?_⟩
  rintro v H1 ⟨W', ρ', d, W1, st1, _, x1, r1, h1⟩
  obtain ⟨i, a, rfl, ha, rfl, h2⟩ := h1.refOf r1
  obtain ⟨x, dd, ok, e, r, h3⟩ := h2.excAt ha
  exact ⟨a, x.cls, _, _, _, rfl, .ty _, .of e r, hk _ ok, (hk _ ok).kitVE, h3.pure _ _ _ h3.1 h3.2.1 (.bl _)⟩
def tNms (cs : List Nat) : TA := fun _ H Q => Q (cs.map fun c => .ref (Cla.a c)) H
theorem cls_pair : ∀ cs : List Nat, Paired ClsV (cs.map fun c => .ref (Cla.a c)) (cs.map fun c => .ref (Cla.a c))
  | [] => .nil
  | _ :: cs => .cons (.own _) (cls_pair cs)
theorem rG_exI2 {cs : List Nat} (hk : ∀ c, Cla.ok c = true → ClsOk K mg Cs c) (hC : ∀ c ∈ Cs, ClsOk K mg Cs c) (hc : ∀ c' ∈ cs, c' ∈ Cs) (hl : cs.length ≤ 100) (h : rG Ef DR (fun ρ => do
    let x ← m ρ
    let i ← refOf x
    let e ← excAt i
    pure (.dat (.bool (cs.any (subC e.cls))))) σ H Q) : tCB (rIsE2 K mg Cs) (tCons (rG Ef DR m) (tCons (tTup (tNms cs)) tNil)) σ H Q := by
  obtain ⟨W, ρ, st, er, h'⟩ := rG_then h
  refine ⟨W, ρ, st, er, h'.mono ?_⟩
  rintro v H1 ⟨W', ρ', d, W1, st1, _, x1, r1, h1⟩
  obtain ⟨i, a, rfl, ha, rfl, h2⟩ := h1.refOf r1
  obtain ⟨x, dd, ok, e, r, h3⟩ := h2.excAt ha
  refine ⟨by rw [List.length_map, sizeLine_eq]; omega, fun p hp => ?_⟩
  have ne : ∀ {b : Addr} {o : HO}, H1 b = some o → upd H1 p (.tup (cs.map fun c => V.ref (Cla.a c))) b = some o := fun {b o} z => by rw [upd_ne (ne_of_none z hp)]; exact z
  refine ⟨a, p, x.cls, _, _, _, rfl, upd_same, cls_pair cs, .of (W := W1) (ne e) (r.mono (fun _ z => z) fun _ _ _ z => ne z), hk _ ok, (hk _ ok).kits hC hc, ?_⟩
  exact h3.pure W1 _ _ (h3.1.trans (Ext.lay hp)) (h3.2.1.lay hp) (.bl _)
theorem wp_isNV {Xp : Exc → Store → Prop} {i : Nat} {st : Store} {P : Bool → Store → Prop} : wp Xp (isNV (.ref i)) st P ↔ (∃ x, st[i]? = some (.exc x)) ∧ P false st := by
  unfold wp isNV
  cases q : st[i]? with
  | none => simp [q]
  | some c => cases c <;> simp [q]
theorem rG_exN {ng : Bool} (h : rG Ef DR (fun ρ => do
    let x ← m ρ
    let b ← isNV x
    pure (.dat (.bool (if ng then !b else b)))) σ H Q) : (rG Ef DR m) σ H fun v H1 => Q (.bl (if ng then !decide (v = .non) else decide (v = .non))) H1 := by
  obtain ⟨W, ρ, st, er, h'⟩ := rG_then h
  refine ⟨W, ρ, st, er, h'.mono ?_⟩
  rintro v H1 ⟨W', ρ', d, W1, st1, _, x1, r1, h1⟩
  obtain ⟨x, g, w⟩ := h1
  rw [wp_bind] at w
  cases d with
  | dat d =>
    have e : decide (v = V.non) = isNone d := by
      cases (show Dv W1.im H1 v d from r1) <;> simp [isNone]
    rw [e]
    exact w W1 H1 _ x g (.bl _)
  | ref i =>
    obtain ⟨a, ha, rfl⟩ := r1
    obtain ⟨_, w⟩ := wp_isNV.mp w
    have e : decide ((V.ref a) = V.non) = false := by simp
    rw [e]
    exact w W1 H1 _ x g (.bl _)
  | newL _ => exact w.elim
  | newD _ _ => exact w.elim
  | tree _ => exact w.elim
end
end MP
end MExc

section MTr
set_option Elab.async false
set_option linter.all false
set_option maxRecDepth 100000
set_option autoImplicit false
set_option maxHeartbeats 4000000
/-! MTr: trees of cells: how they are made, walked, looked at. -/
namespace MP
open PySem PySem.Spec PyProof.Rows L2
variable [Cla]
variable {Fx : FX} {Ef : L2.St → FX} {Xp : Exc → Store → Prop}
def YldT (W : Wd) (H : Hp) (J : L2.It) (ts : List Tr) : Prop := ∀ W' H' (i : Nat), Ext W H W' H' →
  (ts.length ≤ i → J.stop i H') ∧ ∀ t, ts[i]? = some t → J.go i H' ∧ ∀ v H2, J.yld i H' v H2 → ∃ W2, Ext W' H' W2 H2 ∧ DE W2 H2 v (trD t) ∧ ∀ st, Gd W' st H' → Gd W2 st H2
abbrev RIT : Hp → Wd → Hp → L2.It → List Tr → Prop := fun _ W H J ts => YldT W H J ts
theorem yld_tree {K : PySem.W.Frag} {W : Wd} {H : Hp} {a : Addr} {ts : List Tr} (r : TrR W.eta W.im H (.ref a) (.node ts)) : YldT W H (Itl K a) ts := fun W' H' n x => by
  have d := TrR.ext x r
  cases d with
  | node i h l k =>
    rename_i ws
    refine ⟨fun hh => ⟨ws, .inl (.inl h), by rw [l]; exact hh⟩, fun t e => ?_⟩
    have hn : n < ts.length := (List.getElem?_eq_some_iff.mp e).1
    have e1 : ws[n]? = some (ws[n]'(by omega)) := List.getElem?_eq_getElem (by omega)
    refine ⟨⟨ws, _, .inl (.inl h), e1⟩, fun v H2 ⟨h1, h2⟩ => ?_⟩
    subst h1
    have z := h2 ws (.inl (.inl h))
    exact ⟨W', .refl, trD_R.mpr (k n v t z e), fun _ g => g⟩
section
variable {α β : Type} {W0 W : Wd} {H0 H : Hp} {R : Hp → Wd → Hp → β → α → Prop} {st : Store} {Q : β → Hp → Prop}
theorem At.kids {d : D} {v : V} {k : List Tr → M α} {H9 : Hp} (h : At Fx W0 H0 R (kidsOf d >>= k) W H st Q) (r : DR H9 W H v d) : ∃ ts, d = .tree ts ∧ TrR W.eta W.im H v (.node ts) ∧ At Fx W0 H0 R (k ts) W H st Q := by
  cases d with
  | tree ts => exact ⟨ts, rfl, r, h⟩
  | _ => exact h.2.2.elim
theorem At.hold {d : D} {v : V} {k : Tr → M α} {H9 : Hp} (h : At Fx W0 H0 R (holdT d >>= k) W H st Q) (r : DR H9 W H v d) : ∃ t, TrR W.eta W.im H v t ∧ At Fx W0 H0 R (k t) W H st Q := by
  cases d with
  | tree ts => exact ⟨.node ts, r, h⟩
  | ref i => exact ⟨.leaf i, trD_R (t := .leaf i).mp r, h⟩
  | _ => exact h.2.2.elim
end
theorem TrR.write {W : Wd} {H : Hp} {a : Addr} {o : HO} (n : ¬ W.im a) {v : V} {t : Tr} (h : TrR W.eta W.im H v t) : TrR W.eta W.im (upd H a o) v t := h.mono (fun _ _ h => h) (fun _ h => h) fun y _ k e => by rw [upd_ne (show y ≠ a from fun z => n (by rw [← z]; exact k))]; exact e
/-- items that stand for one another -/
def TrAll (W : Wd) (H : Hp) (us : List V) (ts : List Tr) : Prop := us.length = ts.length ∧ ∀ (j : Nat) (v : V) (t : Tr), us[j]? = some v → ts[j]? = some t → TrR W.eta W.im H v t
theorem TrAll.imp {W W' : Wd} {H H' : Hp} {us : List V} {ts : List Tr} (h : TrAll W H us ts) (i : ∀ v t, TrR W.eta W.im H v t → TrR W'.eta W'.im H' v t) : TrAll W' H' us ts := ⟨h.1, fun j v t e1 e2 => i v t (h.2 j v t e1 e2)⟩
theorem TrAll.snoc {W : Wd} {H : Hp} {us : List V} {ts : List Tr} (h : TrAll W H us ts) {v : V} {t : Tr} (r : TrR W.eta W.im H v t) : TrAll W H (us ++ [v]) (ts ++ [t]) := by
  refine ⟨by rw [List.length_append, List.length_append, h.1]; rfl, fun j w u e1 e2 => ?_⟩
  by_cases hj : j < us.length
  · rw [List.getElem?_append_left hj] at e1
    rw [List.getElem?_append_left (by rw [← h.1]; exact hj)] at e2
    exact h.2 j w u e1 e2
  · rw [List.getElem?_append_right (by omega)] at e1
    rw [List.getElem?_append_right (by rw [← h.1]; omega), ← h.1] at e2
    cases q : j - us.length with
    | zero =>
      rw [q] at e1 e2
      cases e1
      cases e2
      exact r
    | succ m =>
      rw [q] at e1
      simp at e1
section
variable {σ : L2.St} {H : Hp}
theorem rI_tree {K : PySem.W.Frag} {m : Env → M D} {R : L2.It → Hp → Prop} (h : rG Ef RIT (fun ρ => m ρ >>= kidsOf) σ H R) : iSeq K (rG Ef DR m) σ H R := by
  obtain ⟨W, ρ, st, er, h⟩ := h
  refine ⟨W, ρ, st, er, (At.bind (R1 := DR) h).mono ?_⟩
  rintro v H1 ⟨d, W1, st1, x1, r1, h1⟩
  obtain ⟨ts, rfl, tr, h2⟩ := h1.toBind.kids r1
  obtain ⟨a, rfl⟩ : ∃ a, v = .ref a := by cases tr; exact ⟨_, rfl⟩
  have y := yld_tree (K := K) tr
  cases tr with
  | node i hh l k => exact ⟨a, rfl, .inl ⟨⟨_, .inl (.inl hh)⟩, h2.pure W1 H1 _ h2.1 h2.2.1 y⟩⟩
theorem rG_idxT {K : PySem.W.Frag} {ma mb : Env → M D} {Q : V → Hp → Prop} (h : rG Ef DR (fun ρ => do
    let x ← ma ρ
    let y ← mb ρ
    let ts ← kidsOf x
    let k ← asInt y
    let j ← ofO (ixPl ts.length k)
    let t ← ofO ts[j]?
    pure (trD t)) σ H Q) : tOp (rIxL K) (rG Ef DR ma) (rG Ef DR mb) σ H Q := by
  obtain ⟨W, ρ, st, er, h'⟩ := rG_two h
  refine ⟨W, ρ, st, er, h'.mono fun v H1 ⟨W1, ρ1, st1, er1, h1⟩ => ⟨W1, ρ1, st1, er1, h1.mono ?_⟩⟩
  rintro u H2 ⟨W', ρ', d, e, W2, st2, _, _, r1, r2, h2⟩
  obtain ⟨ts, rfl, tr, h3⟩ := h2.kids r1
  obtain ⟨i, rfl, h4⟩ := h3.asInt r2
  obtain ⟨j, hj, h5⟩ := h4.ofO
  obtain ⟨t, ht, h6⟩ := h5.ofO
  cases tr with
  | node im hh l k =>
    rename_i a vs
    have jl : j < ts.length := (List.getElem?_eq_some_iff.mp ht).1
    have jv := jl
    rw [← l] at jv
    have e1 := List.getElem?_eq_getElem jv
    refine ⟨_, _, i, _, rfl, rfl, .inl (.inl hh), ?_, h6.pure W2 H2 _ h6.1 h6.2.1 (DE.dr (trD_R.mpr (k j _ t e1 ht)))⟩
    unfold atI
    rw [l, ← ixPl_eq, hj]
    exact e1
end
theorem rG_lcT {Ef' : L2.St → FX} {σ : L2.St} {H : Hp} {Q : V → Hp → Prop} {mi : Env → M (List PyData)} {mt : D → Env → M Env} {mif : Env → M Bool} {me : Env → M D} {ns vs : List Nat} (hns : ∀ i ∈ ns, i ∈ vs) (h : rG Ef DR (fun ρ => do
    let xs ← mi ρ
    let ys ← lcGo (fun x => noX do
      let ρ' ← mt (.dat x) (wipeE ρ vs)
      let k ← mif ρ'
      match k with
      | true => do
        let y ← me ρ'
        let z ← holdT y
        pure (some z)
      | false => pure none) xs []
    pure (.tree ys)) σ H Q) : tLc (rG Ef RI mi) (rT mt ns) (rG Ef' REq mif) (rG Ef' DR me) vs σ H Q := by
  obtain ⟨W, ρ, st, er, h⟩ := h
  refine ⟨W, ρ, st, er, (At.bind (R1 := RI) h).mono ?_⟩
  rintro J H1 ⟨xs, W1, st1, x1, y1, h0⟩
  intro A hA
  have h1 := h0.lcX
  have hA0 : H A = none := x1.fresh hA
  refine ⟨fun i m Hc => m = xs.length - i ∧ i ≤ xs.length ∧ ∃ W2 st2 acc us, Ext W1 H1 W2 Hc ∧ Hc A = some (.lst us) ∧ Loose W2 Hc A ∧ TrAll W2 Hc us acc ∧ At FX0 W H DR (lcGo (fun x => do
      let ρ' ← mt (.dat x) (wipeE ρ vs)
      let k ← mif ρ'
      match k with
      | true => do
        let y ← me ρ'
        let z ← holdT y
        pure (some z)
      | false => pure none) (xs.drop i) acc >>= fun ys => pure (.tree ys)) W2 Hc st2 Q, ?_, ?_⟩
  · exact ⟨xs.length, by simp, Nat.zero_le _, W1, st1, [], [], Ext.lay hA, upd_same, Loose.lay h1.2.1 hA, ⟨rfl, fun j v t e _ => by simp at e⟩, h1.1.trans (Ext.lay hA), h1.2.1.lay hA, h1.2.2⟩
  · rintro i m Hc ⟨rfl, hi, W2, st2, acc, us, x2, hus, l2, q2, h2⟩
    obtain ⟨ystop, ygo⟩ := y1 W2 Hc i x2
    by_cases hlt : i < xs.length
    · have hx : xs[i]? = some xs[i] := List.getElem?_eq_getElem hlt
      obtain ⟨go, yl⟩ := ygo _ hx
      rw [List.drop_eq_getElem_cons hlt] at h2
      have h3 := (h2.wp fun _ P w => wp_lc_cons w).wp fun _ P w => wp_lc_turn w
      refine .inr ⟨go, _, fun H' hw => ⟨xs.length - (i + 1), by omega, rfl, hlt, hw⟩, fun v H' hy => ?_⟩
      obtain ⟨W3, x3, dv, g3⟩ := yl v H' hy
      have h4 := h3.go (h3.1.trans x3) (g3 _ h3.2.1)
      refine ⟨W3, H', W3, wipeE ρ vs, st2, .dat xs[i], ((((er.mono x1).mono x2).mono x3).wipe vs), dv, (At.bind (R1 := REnv) h4).mono ?_⟩
      rintro σ4 H4 ⟨ρ4, W4, st4, x4, er4, h5⟩ off
      refine ⟨wipe_off hns off, W4, ρ4, st4, er4, At.anyX ((At.bind (R1 := REq) h5).mono ?_)⟩
      rintro c H5 ⟨c', W5, st5, x5, rfl, h6⟩
      have x35 := x3.trans (x4.trans x5)
      cases c with
      | false =>
        rw [if_neg (by decide)]
        exact ⟨W5, st5, acc, us, x2.trans x35, x35.keepL l2 hus, x35.loose l2, q2.imp fun _ _ r => r.ext x35, h6⟩
      | true =>
        rw [if_pos rfl]
        refine ⟨W5, ρ4, st5, er4.mono x5, At.anyX ((At.bind (R1 := DR) h6).mono ?_)⟩
        rintro y H6 ⟨dy, W6, st6, x6, r6, h7⟩
        obtain ⟨u, du, h8⟩ := h7.hold r6
        obtain ⟨hz, h9⟩ := h8.guard
        have x36 := x35.trans x6
        have l7 := x6.loose (x35.loose l2)
        refine ⟨us, x36.keepL l2 hus, by rw [q2.1, sizeLine_eq]; exact of_decide_eq_true hz, W6, st6, acc ++ [u], us ++ [y], (x2.trans x36).writeL hA, upd_same, l7.writeL, ?_, h9.1.writeL hA0, h9.2.1.writeL l7, h9.2.2⟩
        exact ((q2.imp fun _ _ r => r.ext x36).snoc du).imp fun _ _ r => r.write l7.2.1
    · have e : i = xs.length := by omega
      subst e
      rw [List.drop_length] at h2
      have h3 : At FX0 W H DR (pure (.tree acc)) W2 Hc st2 Q := h2
      refine .inl ⟨ystop (Nat.le_refl _), h3.pure (W2.addI A) Hc _ (h3.1.own hA0) (h3.2.1.own l2) ?_⟩
      exact .node (.inl rfl) hus q2.1 fun j v t e1 e2 => (q2.2 j v t e1 e2).mono (fun _ _ h => h) (fun _ h => .inr h) fun _ _ _ e => e
theorem rG_lcO {Ef' : L2.St → FX} {σ : L2.St} {H : Hp} {Q : V → Hp → Prop} {mi : Env → M (List Tr)} {mt : D → Env → M Env} {mif : Env → M Bool} {me : Env → M D} {ns vs : List Nat} (hns : ∀ i ∈ ns, i ∈ vs) (h : rG Ef DR (fun ρ => do
    let xs ← mi ρ
    let ys ← lcGo (fun x => noX do
      let ρ' ← mt (trD x) (wipeE ρ vs)
      let k ← mif ρ'
      match k with
      | true => do
        let y ← me ρ'
        let z ← settle y
        pure (some z)
      | false => pure none) xs []
    pure (.newL ys)) σ H Q) : tLc (rG Ef RIT mi) (rT mt ns) (rG Ef' REq mif) (rG Ef' DR me) vs σ H Q := by
  obtain ⟨W, ρ, st, er, h⟩ := h
  refine ⟨W, ρ, st, er, (At.bind (R1 := RIT) h).mono ?_⟩
  rintro J H1 ⟨xs, W1, st1, x1, y1, h0⟩
  intro A hA
  have h1 := h0.lcX
  have hA0 : H A = none := x1.fresh hA
  refine ⟨fun i m Hc => m = xs.length - i ∧ i ≤ xs.length ∧ ∃ W2 st2 acc us, Ext W1 H1 W2 Hc ∧ Hc A = some (.lst us) ∧ Loose W2 Hc A ∧ DvAll W2.im Hc us acc ∧ At FX0 W H DR (lcGo (fun x => do
      let ρ' ← mt (trD x) (wipeE ρ vs)
      let k ← mif ρ'
      match k with
      | true => do
        let y ← me ρ'
        let z ← settle y
        pure (some z)
      | false => pure none) (xs.drop i) acc >>= fun ys => pure (.newL ys)) W2 Hc st2 Q, ?_, ?_⟩
  · exact ⟨xs.length, by simp, Nat.zero_le _, W1, st1, [], [], Ext.lay hA, upd_same, Loose.lay h1.2.1 hA, .nil, h1.1.trans (Ext.lay hA), h1.2.1.lay hA, h1.2.2⟩
  · rintro i m Hc ⟨rfl, hi, W2, st2, acc, us, x2, hus, l2, q2, h2⟩
    obtain ⟨ystop, ygo⟩ := y1 W2 Hc i x2
    by_cases hlt : i < xs.length
    · have hx : xs[i]? = some xs[i] := List.getElem?_eq_getElem hlt
      obtain ⟨go, yl⟩ := ygo _ hx
      rw [List.drop_eq_getElem_cons hlt] at h2
      have h3 := (h2.wp fun _ P w => wp_lc_cons w).wp fun _ P w => wp_lc_turn w
      refine .inr ⟨go, _, fun H' hw => ⟨xs.length - (i + 1), by omega, rfl, hlt, hw⟩, fun v H' hy => ?_⟩
      obtain ⟨W3, x3, dv, g3⟩ := yl v H' hy
      have h4 := h3.go (h3.1.trans x3) (g3 _ h3.2.1)
      refine ⟨W3, H', W3, wipeE ρ vs, st2, trD xs[i], ((((er.mono x1).mono x2).mono x3).wipe vs), DE.dr dv, (At.bind (R1 := REnv) h4).mono ?_⟩
      rintro σ4 H4 ⟨ρ4, W4, st4, x4, er4, h5⟩ off
      refine ⟨wipe_off hns off, W4, ρ4, st4, er4, At.anyX ((At.bind (R1 := REq) h5).mono ?_)⟩
      rintro c H5 ⟨c', W5, st5, x5, rfl, h6⟩
      have x35 := x3.trans (x4.trans x5)
      cases c with
      | false =>
        rw [if_neg (by decide)]
        exact ⟨W5, st5, acc, us, x2.trans x35, x35.keepL l2 hus, x35.loose l2, x35.all q2, h6⟩
      | true =>
        rw [if_pos rfl]
        refine ⟨W5, ρ4, st5, er4.mono x5, At.anyX ((At.bind (R1 := DR) h6).mono ?_)⟩
        rintro y H6 ⟨dy, W6, st6, x6, r6, h7⟩
        obtain ⟨u, W7, st7, x7, du, _, k7, h8⟩ := h7.settle' r6 (fun p n => h6.1.fresh n) x6
        obtain ⟨hz, h9⟩ := h8.guard
        have l7 := x7.loose (x35.loose l2)
        have x37 := (x35.trans x7)
        refine ⟨us, x37.keepL l2 hus, by rw [q2.length, sizeLine_eq]; exact of_decide_eq_true hz, W7, st7, acc ++ [u], us ++ [y], (x2.trans x37).writeL hA, upd_same, l7.writeL, ?_, h9.1.writeL hA0, h9.2.1.writeL l7, h9.2.2⟩
        exact DvAll.append ((x37.all q2).write l7.2.1) (.cons (du.write l7.2.1) .nil)
    · have e : i = xs.length := by omega
      subst e
      rw [List.drop_length] at h2
      have h3 : At FX0 W H DR (pure (.newL acc)) W2 Hc st2 Q := h2
      exact .inl ⟨ystop (Nat.le_refl _), h3.pure W2 Hc _ h3.1 h3.2.1 ⟨A, us, rfl, hus, l2, hA0, q2⟩⟩
end MP
end MTr

section MSnM
set_option Elab.async false
set_option linter.all false
set_option maxRecDepth 100000
set_option autoImplicit false
set_option maxHeartbeats 8000000
/-! MSnM: the machine does at expressions what the evaluator says: the proof by the syntax. -/
namespace MP
open PySem PySem.Spec PyProof.Rows L2
variable [Cla]

section
variable {T : Tab} {xr : XR} {CX : CXT} {EX : L2.St → XK} {C : Ctx} {k : Nat} {X : Cx} {N : List Str} {sc : Scope} {fq : Str → Bool}
theorem XOk.hu (x : XOk T xr CX EX C k X N sc fq) : X.A.units + 64 < cLine := x.un
theorem XOk.none' (x : XOk T xr CX EX C k X N sc fq) {n : Str} (h : n ∈ builtinNames) : X.mg n = none := x.bl n h
theorem chkEs_star : ∀ {es : Exs} {es' : List Expr}, chkEs T N sc fq es es' = true → es'.all noStar = true
  | .nil, [], _ => rfl
  | .nil, _ :: _, h => by unfold chkEs at h; cases h
  | .cons _ _, [], h => by unfold chkEs at h; cases h
  | .cons e es, e' :: es', h => by
    unfold chkEs at h
    simp only [Bool.and_eq_true] at h
    rw [List.all_cons, Bool.and_eq_true]
    exact ⟨h.1.1, chkEs_star h.2⟩
theorem list_cons {e : Expr} {es : List Expr} (h : (e :: es).all noStar = true) : noStar e = true ∧ es.all noStar = true := by rwa [List.all_cons, Bool.and_eq_true] at h
/-- a built-in function or type called by its name -/
theorem pe_biN {b : Bi} {r : List V → Hp → VK → Prop} {e : Expr} {es : List Expr} {p pos : Pos} {t : TA} (hc : CallR X (biFn b) r) (x : XOk T xr CX EX C k X N sc fq) (hg : gloB sc (biNm b) = true) (ha : PA X (e :: es) t) (hs : (e :: es).all noStar = true) :
    PE X (.Call (.Name (biNm b) p) (e :: es) [] pos) (tCB r t) := by
  have h1 := list_cons hs
  have s1 := star_cons (X := X) (es := es) h1.1
  have s2 := stars_none (X := X) (pos := pos) h1.2
  cases b with
  | len => exact pe_callB hc (x.gl' hg) (x.none' (by decide)) (by decide +kernel) ha (by decide) (by decide) s1 s2
  | abs => exact pe_callB hc (x.gl' hg) (x.none' (by decide)) (by decide +kernel) ha (by decide) (by decide) s1 s2
  | repr => exact pe_callB hc (x.gl' hg) (x.none' (by decide)) (by decide +kernel) ha (by decide) (by decide) s1 s2
  | sum => exact pe_callB hc (x.gl' hg) (x.none' (by decide)) (by decide +kernel) ha (by decide) (by decide) s1 s2
  | all => exact pe_callB hc (x.gl' hg) (x.none' (by decide)) (by decide +kernel) ha (by decide) (by decide) s1 s2
  | any => exact pe_callB hc (x.gl' hg) (x.none' (by decide)) (by decide +kernel) ha (by decide) (by decide) s1 s2
  | sorted => exact pe_callB hc (x.gl' hg) (x.none' (by decide)) (by decide +kernel) ha (by decide) (by decide) s1 s2
  | min2 => exact pe_callB hc (x.gl' hg) (x.none' (by decide)) (by decide +kernel) ha (by decide) (by decide) s1 s2
  | max2 => exact pe_callB hc (x.gl' hg) (x.none' (by decide)) (by decide +kernel) ha (by decide) (by decide) s1 s2
  | minL => exact pe_callB hc (x.gl' hg) (x.none' (by decide)) (by decide +kernel) ha (by decide) (by decide) s1 s2
  | int => exact pe_callTy hc (x.gl' hg) (x.none' (by decide)) (by decide +kernel) ha (by decide) (by decide) s1 s2
  | list => exact pe_callTy hc (x.gl' hg) (x.none' (by decide)) (by decide +kernel) ha (by decide) (by decide) s1 s2
  | tuple => exact pe_callTy hc (x.gl' hg) (x.none' (by decide)) (by decide +kernel) ha (by decide) (by decide) s1 s2
def tyStr : Ty → String
  | .int => "int"
  | .bool => "bool"
  | .str => "str"
  | .tuple => "tuple"
  | .list => "list"
  | .dict => "dict"
theorem pe_tyN {t : Ty} {e : Expr} (x : XOk T xr CX EX C k X N sc fq) (h : nameIs sc (tyNm t) e = true) : PE X e (tC (.ty (tyStr t))) := by
  obtain ⟨p, rfl, hg⟩ := nameIs_of h
  cases t with
  | int => exact pe_bltn (x.gl' hg) (x.none' (by decide)) (by decide +kernel) rfl (by decide) (by decide)
  | bool => exact pe_bltn (x.gl' hg) (x.none' (by decide)) (by decide +kernel) rfl (by decide) (by decide)
  | str => exact pe_bltn (x.gl' hg) (x.none' (by decide)) (by decide +kernel) rfl (by decide) (by decide)
  | tuple => exact pe_bltn (x.gl' hg) (x.none' (by decide)) (by decide +kernel) rfl (by decide) (by decide)
  | list => exact pe_bltn (x.gl' hg) (x.none' (by decide)) (by decide +kernel) rfl (by decide) (by decide)
  | dict => exact pe_bltn (x.gl' hg) (x.none' (by decide)) (by decide +kernel) rfl (by decide) (by decide)
theorem noStar_ty {t : Ty} {e : Expr} (h : nameIs sc (tyNm t) e = true) : noStar e = true := by
  obtain ⟨p, rfl, hg⟩ := nameIs_of h
  rfl
/-- isinstance of one class -/
theorem rG_isi1 {σ : L2.St} {H : Hp} {Q : V → Hp → Prop} {Ef : L2.St → FX} {K : PySem.W.Frag} {m : Env → M D} {t : Ty} (h : rG Ef DR (fun ρ => do
    let y ← m ρ
    let u ← look y
    pure (.dat (.bool ([t].any fun t => isiV t u)))) σ H Q) : tCB (rIsiX K) (tCons (rG Ef DR m) (tCons (tC (.ty (tyStr t))) tNil)) σ H Q := by
  obtain ⟨W, ρ, st, er, h'⟩ := rG_then h
  refine ⟨W, ρ, st, er, h'.mono ?_⟩
  rintro v H1 ⟨W', ρ', d, W1, st1, _, x1, r1, h1⟩
  obtain ⟨u, hu, h2⟩ := h1.look r1
  obtain ⟨ty, k1, k2⟩ := ty_of (K := K) hu
  have e : ([t].any fun t => isiV t u) = isiV t u := by simp
  rw [e] at h2
  have fin := h2.pure _ _ _ h2.1 h2.2.1 (.bl _)
  have k3 : PySem.W.kitOne K (.type ty) (.type (tyStr t)) = some (isiV t u) := by
    have := k2 t
    cases t <;> exact this
  rcases k1 with k1 | ⟨rfl, k1⟩
  · exact .inl ⟨v, .ty (tyStr t), .type ty, .type (tyStr t), isiV t u, rfl, .ty _, k1, k3, fin⟩
  · exact .inr ⟨v, tyStr t, isiV t u, rfl, ⟨rfl, k1⟩, k3, fin⟩
theorem gsame_eq {a b : PyData} (h : gsame a b = true) : a = b := by
  unfold gsame at h
  split at h
  · rw [of_decide_eq_true h]
  · rw [of_decide_eq_true h]
  · cases h
theorem pe_con {d : PyData} {c : Const} {j : Nat} {pos : Pos} (h : conB d c = true) {EX : L2.St → XK} : PE X (.Constant c j pos) (rG (efOf xr EX) DR (evE C (.con d))) := by
  unfold conB at h
  split at h
  · exact pe_non.imp fun σ H Q w => rG_con .non (rG_eq (fun ρ => by rw [evE]) w)
  · rw [beq_iff_eq] at h
    subst h
    exact pe_bl.imp fun σ H Q w => rG_con (.bl _) (rG_eq (fun ρ => by rw [evE]) w)
  · rw [decide_eq_true_eq] at h
    subst h
    exact pe_int.imp fun σ H Q w => rG_con (.int _) (rG_eq (fun ρ => by rw [evE]) w)
  · rw [decide_eq_true_eq] at h
    subst h
    exact pe_str.imp fun σ H Q w => rG_con (.str _) (rG_eq (fun ρ => by rw [evE]) w)
  · cases h
theorem noSet_fold {e : Expr} {env : PySem.Env} (h : noSet e = true) (y : Value) : foldedSetIterable e env y = pure y := by
  cases e <;> first | rfl | (cases h)
theorem few1 {e : Expr} {cp : Pos} (h : noStar e = true) : ((backTo cp (starEach [e] X.env)).all (fun x => !x.1) && (backToKw cp (keywordEach [] X.env)).all (fun x => x.1.isSome) && decide ([e].length + ([] : List Keyword).length + (if ([] : List Keyword).isEmpty then 0 else 1) < 30)) = true := by
  rw [star_cons h]
  rfl
theorem few2 {e e2 : Expr} {cp : Pos} (h : noStar e = true) (h2 : noStar e2 = true) : ((backTo cp (starEach [e, e2] X.env)).all (fun x => !x.1) && (backToKw cp (keywordEach [] X.env)).all (fun x => x.1.isSome) && decide ([e, e2].length + ([] : List Keyword).length + (if ([] : List Keyword).isEmpty then 0 else 1) < 30)) = true := by
  rw [star_cons h, star_cons h2]
  rfl
theorem clNames_of : ∀ {cs : List Nat} {ts : List Expr}, clNames T sc cs ts = true → ∀ c ∈ cs, c ∈ T.C
  | [], _, _, _, hc => by cases hc
  | c :: cs, [], h, _, _ => by unfold clNames at h; cases h
  | c :: cs, t :: ts, h, c', hc => by
    unfold clNames at h
    simp only [Bool.and_eq_true] at h
    rcases List.mem_cons.mp hc with rfl | hc
    · exact List.contains_iff_mem.mp h.1.1.1
    · exact clNames_of h.2 c' hc
theorem pa_nms (x : XOk T xr CX EX C k X N sc fq) : ∀ {cs : List Nat} {ts : List Expr}, clNames T sc cs ts = true → ts.all noStar = true → PA X ts (tNms cs)
  | [], [], _, _ => pa_nil.imp fun σ H Q w => w
  | [], _ :: _, h, _ => by unfold clNames at h; cases h
  | _ :: _, [], h, _ => by unfold clNames at h; cases h
  | c :: cs, t :: ts, h, hs => by
    unfold clNames at h
    simp only [Bool.and_eq_true] at h
    obtain ⟨⟨⟨k1, k2⟩, k3⟩, k4⟩ := h
    rw [List.all_cons, Bool.and_eq_true] at hs
    obtain ⟨p2, rfl, hg2⟩ := nameIs_of k2
    have ok := x.cls c (List.contains_iff_mem.mp k1)
    exact (pa_cons (pe_glob (v := .ref (Cla.a c)) (x.gl' hg2) ok.gC rfl (okName_of k3).1) (pa_nms x k4 hs.2) (star_cons hs.1)).imp fun σ H Q w => w
theorem XOk.sto (x : XOk T xr CX EX C k X N sc fq) {n : Str} (h : stoB sc fq n = true) : Loc X.env.scope n ∧ (X.fn n = true ∨ X.env.scope.names.lookup n = some .local) := by
  rw [x.scope, x.fn]
  unfold stoB at h
  split at h
  · exact ⟨.inl (by assumption), .inr (by assumption)⟩
  · exact ⟨.inr (by assumption), .inl h⟩
  · cases h
theorem asg_cons {e : Expr} {es : List Expr} (h : noStar e = true) : assignEach (e :: es) X.env = (false, assign e X.env) :: assignEach es X.env := by
  cases e <;> first | rfl | (cases h)
theorem sub_asg {o i : Expr} {pos : Pos} {env : PySem.Env} (h : noSlice i = true) (v : Value) : assign (.Subscript o i pos) env v = (do
      let ov ← holding [v] (eval o env)
      let iv ← holding [v, ov] (eval i env)
      standAt pos
      holding [v, ov, iv] (setItem ov iv v)
      release [v, ov, iv] []) := by
  cases i <;> first | rfl | (cases h)
theorem blk_ok {scope : Scope} {own : List (Str × Nat)} (x : XOk T xr CX EX C k X N sc fq) (h : blkC N sc scope own = true) : BlkOk X.N X.env.scope scope own := by
  rw [x.names, x.scope]
  exact blkOk_by h
end

section
variable {T : Tab} {xr : XR} {CX : CXT} {C : Ctx} {k : Nat} {N : List Str}
abbrev GoodE (xr : XR) (C : Ctx) (EX : L2.St → XK) (X : Cx) (e : Ex) (e' : Expr) : Prop :=
  PE X e' (rG (efOf xr EX) DR (evE C e)) ∧ (tOk e = true → PT X e' (rG (efOf xr EX) REq (fun ρ => evE C e ρ >>= asBool)))
theorem good_of {EX : L2.St → XK} {X : Cx} {e : Ex} {e' : Expr} (h : PE X e' (rG (efOf xr EX) DR (evE C e))) (p : plainT e' = true) : GoodE xr C EX X e e' := ⟨h, fun _ => pt_of h p⟩
theorem tTest_of {σ : L2.St} {H : Hp} {Q : Bool → Hp → Prop} {Ef : L2.St → FX} {m : Env → M D} {t : TE} (i : ∀ σ H Q, rG Ef DR m σ H Q → t σ H Q) (h : rG Ef REq (fun ρ => m ρ >>= asBool) σ H Q) : tTest t σ H Q := i _ _ _ (rG_test h)
theorem tB_of {σ : L2.St} {H : Hp} {Q : Bool → Hp → Prop} {Ef : L2.St → FX} {m : Env → M D} {t : TE} (i : ∀ σ H Q, rG Ef DR m σ H Q → t σ H Q) (h : rG Ef REq (fun ρ => m ρ >>= asBool) σ H Q) : tB t σ H Q := i _ _ _ (rG_test h)
theorem noSl_of {e : Expr} (h : noSlice e = true) : NoSl e := fun ov iv => by
  cases e <;> first | rfl | (cases h)
mutual
theorem sndE : ∀ (e : Ex) {EX : L2.St → XK} {X : Cx} {sc : Scope} {fq : Str → Bool} {e' : Expr}, XOk T xr CX EX C k X N sc fq → chkE T N sc fq e e' = true → GoodE xr C EX X e e'
  | .var i, EX, X, sc, fq, e', x, h => by
    unfold chkE at h
    split at h
    · simp only [Bool.and_eq_true, decide_eq_true_eq] at h
      obtain ⟨⟨h1, h2⟩, h3⟩ := h
      obtain ⟨d1, d2, d3⟩ := okName_of h3
      exact good_of ((pe_var (by rw [x.names]; exact h1) (x.vis h2) d1 d2).imp fun σ H Q w => rG_var (rG_eq (fun ρ => by rw [evE] <;> rfl) w)) rfl
    · cases h
  | .con d, EX, X, sc, fq, e', x, h => by
    unfold chkE at h
    split at h
    · exact good_of (pe_con h) rfl
    · cases h
  | .glob y d, EX, X, sc, fq, e', x, h => by
    unfold chkE at h
    split at h
    · simp only [Bool.and_eq_true, decide_eq_true_eq, List.any_eq_true] at h
      obtain ⟨⟨⟨rfl, h2⟩, h3⟩, p, hp, rfl, h4⟩ := h
      obtain ⟨v, u, g1, g2, g3⟩ := x.gl p hp
      rw [gsame_eq h4] at g3
      exact good_of ((pe_glob (x.gl' h2) g1 g2 (okName_of h3).1).imp fun σ H Q w => rG_con g3 (rG_eq (fun ρ => by rw [evE]) w)) rfl
    · cases h
  | .bin op a b, EX, X, sc, fq, e', x, h => by
    unfold chkE at h
    split at h
    · simp only [Bool.and_eq_true, decide_eq_true_eq] at h
      obtain ⟨⟨rfl, h1⟩, h2⟩ := h
      exact good_of ((pe_op (or_bop op) (sndE a x h1).1 (sndE b x h2).1).imp fun σ H Q w => rG_bin (rG_eq (fun ρ => by rw [evE]) w)) rfl
    · cases h
  | .neg a, EX, X, sc, fq, e', x, h => by
    unfold chkE at h
    split at h
    · exact good_of ((pe_un un_neg (sndE a x h).1).imp fun σ H Q w => rG_neg (rG_eq (fun ρ => by rw [evE]) w)) rfl
    · cases h
  | .cmp op a b, EX, X, sc, fq, e', x, h => by
    unfold chkE at h
    split at h
    · simp only [Bool.and_eq_true, decide_eq_true_eq] at h
      obtain ⟨⟨⟨rfl, h1⟩, h2⟩, h3⟩ := h
      have i : ∀ σ H Q, rG (efOf xr EX) DR (evE C (.cmp op a b)) σ H Q → tOp (rV2 fun x y => bolO (copV op x y)) (rG (efOf xr EX) DR (evE C a)) (rG (efOf xr EX) DR (evE C b)) σ H Q := fun σ H Q w => rG_bin (rG_eq (fun ρ => by rw [evE] <;> rfl) w)
      exact ⟨(pe_cmpR (or_cop x.hu op) (sndE a x h2).1 (sndE b x h3).1 (noMark h1)).imp i, fun _ => (pt_cmpR (or_cop x.hu op) (sndE a x h2).1 (sndE b x h3).1 (noMark h1)).imp fun σ H Q w => tTest_of i w⟩
    · cases h
  | .chain o1 o2 a b c, EX, X, sc, fq, e', x, h => by
    unfold chkE at h
    split at h
    · simp only [Bool.and_eq_true, decide_eq_true_eq] at h
      obtain ⟨⟨⟨⟨⟨rfl, rfl⟩, h1⟩, h2⟩, h3⟩, h4⟩ := h
      have i : ∀ σ H Q, rG (efOf xr EX) DR (evE C (.chain o1 o2 a b c)) σ H Q → tChain (rV2 fun x y => bolO (copV o1 x y)) (rV2 fun x y => bolO (copV o2 x y)) (rG (efOf xr EX) DR (evE C a)) (rG (efOf xr EX) DR (evE C b)) (rG (efOf xr EX) DR (evE C c)) σ H Q := fun σ H Q w => rG_chain (rG_eq (fun ρ => by rw [evE] <;> rfl) w)
      exact ⟨(pe_chain (or_cop x.hu o1) (or_cop x.hu o2) (sndE a x h2).1 (sndE b x h3).1 (sndE c x h4).1 (noMark h1)).imp i, fun _ => (pt_chain (or_cop x.hu o1) (or_cop x.hu o2) (sndE a x h2).1 (sndE b x h3).1 (sndE c x h4).1 (noMark h1)).imp fun σ H Q w => tTest_of i w⟩
    · cases h
  | .isin ng a b, EX, X, sc, fq, e', x, h => by
    unfold chkE at h
    split at h
    · simp only [Bool.and_eq_true, decide_eq_true_eq] at h
      obtain ⟨⟨⟨rfl, h1⟩, h2⟩, h3⟩ := h
      have i : ∀ σ H Q, rG (efOf xr EX) DR (evE C (.isin ng a b)) σ H Q → tOp (rV2 fun x y => bolO ((inV x y).map fun b => if ng then !b else b)) (rG (efOf xr EX) DR (evE C a)) (rG (efOf xr EX) DR (evE C b)) σ H Q := fun σ H Q w => rG_bin (rG_eq (fun ρ => by rw [evE] <;> rfl) w)
      exact ⟨(pe_cmpR (or_in x.hu ng) (sndE a x h2).1 (sndE b x h3).1 (noMark h1)).imp i, fun _ => (pt_cmpR (or_in x.hu ng) (sndE a x h2).1 (sndE b x h3).1 (noMark h1)).imp fun σ H Q w => tTest_of i w⟩
    · cases h
  | .isinD ng a b, EX, X, sc, fq, e', x, h => by
    unfold chkE at h
    split at h
    · simp only [Bool.and_eq_true, decide_eq_true_eq] at h
      obtain ⟨⟨⟨rfl, h1⟩, h2⟩, h3⟩ := h
      have hu : X.A.units + 1 < cLine := by have := x.hu; omega
      cases ng with
      | false =>
        have i : ∀ σ H Q, rG (efOf xr EX) DR (evE C (.isinD false a b)) σ H Q → tXIn id (rG (efOf xr EX) DR (evE C a)) (rG (efOf xr EX) DR (evE C b)) σ H Q := fun σ H Q w => rG_in (f := id) (rG_eq (fun ρ => by rw [evE] <;> rfl) w)
        exact ⟨(pe_cmp (pc_xin hu (sndE a x h2).1 (sndE b x h3).1) (noMark h1)).imp i, fun _ => (pt_cmp (pc_xin hu (sndE a x h2).1 (sndE b x h3).1) (noMark h1)).imp fun σ H Q w => tB_of i w⟩
      | true =>
        have i : ∀ σ H Q, rG (efOf xr EX) DR (evE C (.isinD true a b)) σ H Q → tXIn not (rG (efOf xr EX) DR (evE C a)) (rG (efOf xr EX) DR (evE C b)) σ H Q := fun σ H Q w => rG_in (f := not) (rG_eq (fun ρ => by rw [evE] <;> rfl) w)
        exact ⟨(pe_cmp (pc_xnotin hu (sndE a x h2).1 (sndE b x h3).1) (noMark h1)).imp i, fun _ => (pt_cmp (pc_xnotin hu (sndE a x h2).1 (sndE b x h3).1) (noMark h1)).imp fun σ H Q w => tB_of i w⟩
    · cases h
  | .and a b, EX, X, sc, fq, e', x, h => by
    have iv : ∀ σ H Q, rG (efOf xr EX) DR (evE C (.and a b)) σ H Q → tAndV (rG (efOf xr EX) DR (evE C a)) (rG (efOf xr EX) DR (evE C b)) σ H Q := fun σ H Q w => by
      have w' : rG (efOf xr EX) DR (fun ρ => evE C a ρ >>= fun x => asBool x >>= fun k => (fun (k : Bool) (ρ : Env) => (match k with
        | true => evE C b ρ
        | false => pure (.dat (.bool false)) : M D)) k ρ) σ H Q := rG_eq (fun ρ => by rw [evE] <;> rfl) w
      refine rG_mono (rG_condV early_DR w') ?_
      rintro v H1 ⟨c, e, h1⟩
      refine ⟨c, e, ?_⟩
      cases c with
      | true => rw [if_pos rfl]; exact h1
      | false => rw [if_neg (by decide)]; exact rG_pure h1 fun _ _ _ => .bl _
    have it : ∀ σ H Q, rG (efOf xr EX) REq (fun ρ => evE C (.and a b) ρ >>= asBool) σ H Q → tAnd (rG (efOf xr EX) REq (fun ρ => evE C a ρ >>= asBool)) (rG (efOf xr EX) REq (fun ρ => evE C b ρ >>= asBool)) σ H Q := fun σ H Q w => by
      have w' := rG_congr (fun Xp ρ st P w => wp_and w) w
      refine rG_mono (rG_cond (k := fun (k : Bool) (ρ : Env) => (match k with
        | true => evE C b ρ >>= asBool
        | false => pure false : M Bool)) early_eq w') ?_
      rintro c H1 h1
      cases c with
      | true => rw [if_pos rfl]; exact h1
      | false => rw [if_neg (by decide)]; exact rG_pure h1 fun _ _ _ => rfl
    unfold chkE at h
    split at h
    · simp only [Bool.and_eq_true] at h
      refine ⟨(pe_and (sndE a x h.1).1 (pe_one (sndE b x h.2).1)).imp iv, fun t => ?_⟩
      unfold tOk at t
      simp only [Bool.and_eq_true] at t
      exact (pw_and ((sndE a x h.1).2 t.1) (pw_and1 ((sndE b x h.2).2 t.2))).pt.imp it
    · simp only [Bool.and_eq_true] at h
      refine ⟨(pe_and (sndE a x h.1).1 (sndE b x h.2).1).imp iv, fun t => ?_⟩
      unfold tOk at t
      simp only [Bool.and_eq_true] at t
      exact (pw_and ((sndE a x h.1).2 t.1) (PW.ofBool ((sndE b x h.2).2 t.2))).pt.imp it
    · cases h
  | .or a b, EX, X, sc, fq, e', x, h => by
    have iv : ∀ σ H Q, rG (efOf xr EX) DR (evE C (.or a b)) σ H Q → tOrV (rG (efOf xr EX) DR (evE C a)) (rG (efOf xr EX) DR (evE C b)) σ H Q := fun σ H Q w => by
      have w' : rG (efOf xr EX) DR (fun ρ => evE C a ρ >>= fun x => asBool x >>= fun k => (fun (k : Bool) (ρ : Env) => (match k with
        | true => pure (.dat (.bool true))
        | false => evE C b ρ : M D)) k ρ) σ H Q := rG_eq (fun ρ => by rw [evE] <;> rfl) w
      refine rG_mono (rG_condV early_DR w') ?_
      rintro v H1 ⟨c, e, h1⟩
      refine ⟨c, e, ?_⟩
      cases c with
      | false => rw [if_neg (by decide)]; exact h1
      | true => rw [if_pos rfl]; exact rG_pure h1 fun _ _ _ => .bl _
    have it : ∀ σ H Q, rG (efOf xr EX) REq (fun ρ => evE C (.or a b) ρ >>= asBool) σ H Q → tOr (rG (efOf xr EX) REq (fun ρ => evE C a ρ >>= asBool)) (rG (efOf xr EX) REq (fun ρ => evE C b ρ >>= asBool)) σ H Q := fun σ H Q w => by
      have w' := rG_congr (fun Xp ρ st P w => wp_or w) w
      refine rG_mono (rG_cond (k := fun (k : Bool) (ρ : Env) => (match k with
        | true => pure true
        | false => evE C b ρ >>= asBool : M Bool)) early_eq w') ?_
      rintro c H1 h1
      cases c with
      | false => rw [if_neg (by decide)]; exact h1
      | true => rw [if_pos rfl]; exact rG_pure h1 fun _ _ _ => rfl
    unfold chkE at h
    split at h
    · simp only [Bool.and_eq_true] at h
      refine ⟨(pe_or (sndE a x h.1).1 (pe_one (sndE b x h.2).1)).imp iv, fun t => ?_⟩
      unfold tOk at t
      simp only [Bool.and_eq_true] at t
      exact (pw_or ((sndE a x h.1).2 t.1) (pw_or1 ((sndE b x h.2).2 t.2))).pt.imp it
    · simp only [Bool.and_eq_true] at h
      refine ⟨(pe_or (sndE a x h.1).1 (sndE b x h.2).1).imp iv, fun t => ?_⟩
      unfold tOk at t
      simp only [Bool.and_eq_true] at t
      exact (pw_or ((sndE a x h.1).2 t.1) (PW.ofBool ((sndE b x h.2).2 t.2))).pt.imp it
    · cases h
  | .not a, EX, X, sc, fq, e', x, h => by
    unfold chkE at h
    split at h
    · refine ⟨(pe_not (sndE a x h).1).imp fun σ H Q w => ?_, fun t => (pt_not ((sndE a x h).2 (by unfold tOk at t; exact t))).imp fun σ H Q w => ?_⟩
      · have w' : rG (efOf xr EX) DR (fun ρ => evE C a ρ >>= fun x => asBool x >>= fun k => (fun (k : Bool) (_ : Env) => (pure (.dat (.bool (!k))) : M D)) k ρ) σ H Q := rG_eq (fun ρ => by rw [evE]) w
        refine rG_mono (rG_condV early_DR w') ?_
        rintro v H1 ⟨c, e, h1⟩
        exact ⟨c, e, rG_pure h1 fun _ _ _ => .bl _⟩
      · have w' := rG_congr (fun Xp ρ st P w => wp_not w) w
        refine rG_mono (rG_cond (k := fun (k : Bool) (_ : Env) => (pure (!k) : M Bool)) early_eq w') ?_
        rintro c H1 h1
        exact rG_pure h1 fun _ _ _ => rfl
    · cases h
  | .ife c a b, EX, X, sc, fq, e', x, h => by
    unfold chkE at h
    split at h
    · simp only [Bool.and_eq_true] at h
      obtain ⟨⟨⟨h1, h2⟩, h3⟩, h4⟩ := h
      refine ⟨(pe_ifExp ((sndE c x h2).2 h1) (sndE a x h3).1 (sndE b x h4).1).imp fun σ H Q w => ?_, fun t => by unfold tOk at t; cases t⟩
      have w' : rG (efOf xr EX) DR (fun ρ => evE C c ρ >>= fun x => asBool x >>= fun k => (fun (k : Bool) (ρ : Env) => (match k with
        | true => evE C a ρ
        | false => evE C b ρ : M D)) k ρ) σ H Q := rG_eq (fun ρ => by rw [evE] <;> rfl) w
      refine rG_mono (rG_cond early_DR w') ?_
      rintro c H1 h1
      cases c with
      | true => rw [if_pos rfl]; exact h1
      | false => rw [if_neg (by decide)]; exact h1
    · cases h
  | .tup es, EX, X, sc, fq, e', x, h => by
    unfold chkE at h
    split at h
    · exact good_of ((pe_tupS (sndEs es x h).1).imp fun σ H Q w => rG_tup (rG_eq (fun ρ => by rw [evE]) w)) rfl
    · cases h
  | .lst es, EX, X, sc, fq, e', x, h => by
    unfold chkE at h
    split at h
    · exact good_of ((pe_lst (sndEs es x h).1).imp fun σ H Q w => rG_lst (rG_eq (fun ρ => by rw [evE]) w)) rfl
    · cases h
  | .emp t, EX, X, sc, fq, e', x, h => by
    unfold chkE at h
    split at h
    · cases t with
      | false => exact good_of (pe_dnewK.imp fun σ H Q w => rG_empK (rG_eq (fun ρ => by rw [evE]) w)) rfl
      | true => exact good_of (pe_xnew.imp fun σ H Q w => rG_empT (rG_eq (fun ρ => by rw [evE]) w)) rfl
    · cases h
  | .idx a b, EX, X, sc, fq, e', x, h => by
    unfold chkE at h
    split at h
    · simp only [Bool.and_eq_true] at h
      obtain ⟨⟨h1, h2⟩, h3⟩ := h
      exact good_of ((pe_ix ir_idx (sndE a x h2).1 (sndE b x h3).1 (plainIx_of h1)).imp fun σ H Q w => rG_bin (rG_eq (fun ρ => by rw [evE]) w)) rfl
    · cases h
  | .idxD a b, EX, X, sc, fq, e', x, h => by
    unfold chkE at h
    split at h
    · simp only [Bool.and_eq_true] at h
      obtain ⟨⟨h1, h2⟩, h3⟩ := h
      have hu : X.A.units + 1 < cLine := by have := x.hu; omega
      exact good_of ((pe_xget hu (sndE a x h2).1 (sndE b x h3).1 (noSl_of h1)).imp fun σ H Q w => rG_dget (rG_eq (fun ρ => by rw [evE]) w)) rfl
    · cases h
  | .slc a lo hi, EX, X, sc, fq, e', x, h => by
    unfold chkE at h
    split at h
    · simp only [Bool.and_eq_true] at h
      obtain ⟨⟨h1, h2⟩, h3⟩ := h
      exact good_of ((pe_slice sr_cut (sndE a x h1).1 (sndO lo x h2) (sndO hi x h3)).imp fun σ H Q w => rG_slc (rG_eq (fun ρ => by rw [evE]) w)) rfl
    · cases h
  | .bi f es, EX, X, sc, fq, e', x, h => by
    unfold chkE at h
    rw [Bool.and_eq_true, Bool.not_eq_true'] at h
    obtain ⟨h0, h⟩ := h
    split at h
    · simp only [Bool.and_eq_true] at h
      obtain ⟨p, rfl, hg⟩ := nameIs_of h.1
      exact good_of ((pe_biN (cr_bi x.hu x.gd (x.calm h0) f) x hg (sndEs es x h.2).2 (chkEs_star h.2)).imp fun σ H Q w => rG_bi (rG_eq (fun ρ => by rw [evE]) w)) rfl
    · cases h
  | .lrng a, EX, X, sc, fq, e', x, h => by
    unfold chkE at h
    rw [Bool.and_eq_true, Bool.not_eq_true'] at h
    obtain ⟨h0, h⟩ := h
    split at h
    · simp only [Bool.and_eq_true] at h
      obtain ⟨⟨⟨h1, h2⟩, h3⟩, h4⟩ := h
      obtain ⟨p, rfl, hg⟩ := nameIs_of h1
      obtain ⟨p', rfl, hg'⟩ := nameIs_of h2
      exact good_of ((pe_listRg (x.calm h0) (x.gl' hg) (x.none' (by decide)) (prg_1 (x.gl' hg') (x.none' (by decide)) (sndE a x h4).1 (star_cons h3)) (star_cons rfl)).imp fun σ H Q w => rG_lrng (rG_eq (fun ρ => by rw [evE]) w)) rfl
    · cases h
  | .isi a ts par, EX, X, sc, fq, e', x, h => by
    unfold chkE at h
    split at h
    · simp only [Bool.and_eq_true] at h
      obtain ⟨⟨⟨h1, h2⟩, h3⟩, h4⟩ := h
      obtain ⟨p, rfl, hg⟩ := nameIs_of h1
      have st := noStar_ty h4
      exact good_of ((pe_callB call_isiX (x.gl' hg) (x.none' (by decide)) (by decide +kernel) (pa_cons (sndE a x h3).1 (pa_cons (pe_tyN x h4) pa_nil (star_cons st)) (star_cons h2)) (by decide) (by decide) (star_cons h2) (stars_none (by rw [List.all_cons, st]; rfl))).imp
        fun σ H Q w => rG_isi1 (rG_eq (fun ρ => by rw [evE]) w)) rfl
    · cases h
  | .call f es, EX, X, sc, fq, e', x, h => by
    unfold chkE at h
    rw [Bool.and_eq_true, Bool.not_eq_true'] at h
    obtain ⟨h0, h⟩ := h
    split at h
    · simp only [Bool.and_eq_true, decide_eq_true_eq] at h
      obtain ⟨⟨⟨h1, h2⟩, h3⟩, h4⟩ := h
      cases hf : T.P[f]? with
      | none => rw [hf] at h3; cases h3
      | some d =>
        rw [hf] at h3
        cases h3
        obtain ⟨fa, fd, m1, m2, m3, m4, m5⟩ := x.fns f d hf
        have st := chkEs_star h4
        have st2 := list_cons st
        exact good_of ((pe_callG m5 (x.room h0) x.gd (x.gl' h2) m1 m2 m3 x.px (sndEs es x h4).2 (okName_of h1).1 (star_cons st2.1) (stars_none st2.2)).imp fun σ H Q w => rG_call (rG_eq (fun ρ => by rw [evE]) w)) rfl
    · cases h
  | .comp elt tg it ifs own, EX, X, sc, fq, e', x, h => by
    unfold chkE at h
    rw [Bool.and_eq_true, Bool.not_eq_true'] at h
    obtain ⟨h0, h⟩ := h
    split at h
    · simp only [Bool.and_eq_true] at h
      obtain ⟨⟨⟨⟨⟨⟨h1, h2⟩, h3⟩, h4⟩, h5⟩, h6⟩, h7⟩ := h
      have hns : ∀ i ∈ tgNames tg, i ∈ own.map (·.2) := fun i hi => by
        have := List.all_eq_true.mp h7 i hi
        exact of_decide_eq_true this
      exact good_of ((pe_lc (x.calm h0) (by rw [x.names]; exact x.nd) (sndIt it x h3) (blk_ok x h1) (fun s H c cl fp => sndTg tg (x.blk s H _ c cl fp) h4) (fun s H c cl fp => sndIf ifs (x.blk s H _ c cl fp) h5) (fun s H c cl fp => (sndE elt (x.blk s H _ c cl fp) h6).1)
        (noSet_fold h2)).imp fun σ H Q w => rG_lc hns (rG_eq (fun ρ => by rw [evE] <;> rfl) w)) rfl
    · cases h
  | .compT elt tg it ifs own, EX, X, sc, fq, e', x, h => by
    unfold chkE at h
    rw [Bool.and_eq_true, Bool.not_eq_true'] at h
    obtain ⟨h0, h⟩ := h
    split at h
    · simp only [Bool.and_eq_true] at h
      obtain ⟨⟨⟨⟨⟨⟨h1, h2⟩, h3⟩, h4⟩, h5⟩, h6⟩, h7⟩ := h
      have hns : ∀ i ∈ tgNames tg, i ∈ own.map (·.2) := fun i hi => by
        have := List.all_eq_true.mp h7 i hi
        exact of_decide_eq_true this
      exact good_of ((pe_lc (x.calm h0) (by rw [x.names]; exact x.nd) (sndIt it x h3) (blk_ok x h1) (fun s H c cl fp => sndTg tg (x.blk s H _ c cl fp) h4) (fun s H c cl fp => sndIf ifs (x.blk s H _ c cl fp) h5) (fun s H c cl fp => (sndE elt (x.blk s H _ c cl fp) h6).1)
        (noSet_fold h2)).imp fun σ H Q w => rG_lcT hns (rG_eq (fun ρ => by rw [evE] <;> rfl) w)) rfl
    · cases h
  | .compO elt tg e0 ifs own, EX, X, sc, fq, e', x, h => by
    unfold chkE at h
    rw [Bool.and_eq_true, Bool.not_eq_true'] at h
    obtain ⟨h0, h⟩ := h
    split at h
    · simp only [Bool.and_eq_true] at h
      obtain ⟨⟨⟨⟨⟨⟨h1, h2⟩, h3⟩, h4⟩, h5⟩, h6⟩, h7⟩ := h
      have hns : ∀ i ∈ tgNames tg, i ∈ own.map (·.2) := fun i hi => by
        have := List.all_eq_true.mp h7 i hi
        exact of_decide_eq_true this
      exact good_of ((pe_lc (x.calm h0) (by rw [x.names]; exact x.nd) ((pi_seq (sndE e0 x h3).1).imp fun σ H R w => rI_tree w) (blk_ok x h1) (fun s H c cl fp => sndTg tg (x.blk s H _ c cl fp) h4) (fun s H c cl fp => sndIf ifs (x.blk s H _ c cl fp) h5) (fun s H c cl fp => (sndE elt (x.blk s H _ c cl fp) h6).1)
        (noSet_fold h2)).imp fun σ H Q w => rG_lcO hns (mi := fun ρ => evE C e0 ρ >>= kidsOf) (rG_eq (fun ρ => by rw [evE] <;> rfl) w)) rfl
    · cases h
  | .idxT a b, EX, X, sc, fq, e', x, h => by
    unfold chkE at h
    split at h
    · simp only [Bool.and_eq_true] at h
      obtain ⟨⟨h1, h2⟩, h3⟩ := h
      exact good_of ((pe_ix ix_list (sndE a x h2).1 (sndE b x h3).1 (plainIx_of h1)).imp fun σ H Q w => rG_idxT (rG_eq (fun ρ => by rw [evE]) w)) rfl
    · cases h
  | .cell e, EX, X, sc, fq, e', x, h => by
    unfold chkE at h
    exact ⟨((sndE e x h).1).imp fun σ H Q w => rG_cell (rG_eq (fun ρ => by rw [evE]) w), fun t => by unfold tOk at t; cases t⟩
  | .app a y, EX, X, sc, fq, e', x, h => by
    unfold chkE at h
    split at h
    · simp only [Bool.and_eq_true, decide_eq_true_eq] at h
      obtain ⟨⟨⟨⟨⟨rfl, h1⟩, h2⟩, h3⟩, h4⟩, h5⟩ := h
      exact good_of ((pe_bm PySem.F.plainAttrs_list PySem.F.slot_list_append PySem.F.type_list_append mt_append (sndE a x h4).1 (pa_cons (sndE y x h5).1 pa_nil (star_cons h3)) (attr_plain h1) (few1 h3) (by rw [h2]; exact beq_self_eq_true _) (star_cons h3) rfl).imp
        fun σ H Q w => rG_app (rG_eq (fun ρ => by rw [evE]) w)) rfl
    · cases h
  | .pop a, EX, X, sc, fq, e', x, h => by
    unfold chkE at h
    split at h
    · simp only [Bool.and_eq_true, decide_eq_true_eq] at h
      obtain ⟨⟨⟨rfl, h1⟩, h2⟩, h4⟩ := h
      exact good_of ((pe_bm0 PySem.F.plainAttrs_list PySem.F.slot_list_pop PySem.F.type_list_pop mt_pop (sndE a x h4).1 (attr_plain h1) (by rw [h2]; exact beq_self_eq_true _)).imp
        fun σ H Q w => rG_pop (rG_eq (fun ρ => by rw [evE]) w)) rfl
    · cases h
  | .popAt a y, EX, X, sc, fq, e', x, h => by
    unfold chkE at h
    split at h
    · simp only [Bool.and_eq_true, decide_eq_true_eq] at h
      obtain ⟨⟨⟨⟨⟨rfl, h1⟩, h2⟩, h3⟩, h4⟩, h5⟩ := h
      exact good_of ((pe_bm PySem.F.plainAttrs_list PySem.F.slot_list_pop PySem.F.type_list_pop mt_popAt (sndE a x h4).1 (pa_cons (sndE y x h5).1 pa_nil (star_cons h3)) (attr_plain h1) (few1 h3) (by rw [h2]; exact beq_self_eq_true _) (star_cons h3) rfl).imp
        fun σ H Q w => rG_popAt (rG_eq (fun ρ => by rw [evE]) w)) rfl
    · cases h
  | .index a y, EX, X, sc, fq, e', x, h => by
    unfold chkE at h
    split at h
    · simp only [Bool.and_eq_true, decide_eq_true_eq] at h
      obtain ⟨⟨⟨⟨⟨rfl, h1⟩, h2⟩, h3⟩, h4⟩, h5⟩ := h
      have l1 := pe_bm PySem.F.plainAttrs_list PySem.F.slot_list_index PySem.F.type_list_index (mt_ixL x.hu) (sndE a x h4).1 (pa_cons (sndE y x h5).1 pa_nil (star_cons h3)) (attr_plain h1) (few1 h3) (by rw [h2]; exact beq_self_eq_true _) (star_cons h3) rfl
      have l2 := pe_bmT PySem.F.slot_tuple_index PySem.F.type_tuple_index (mt_ixT x.hu) (sndE a x h4).1 (pa_cons (sndE y x h5).1 pa_nil (star_cons h3)) (attr_plain h1) (few1 h3) (by rw [h2]; exact beq_self_eq_true _) (star_cons h3) rfl
      exact good_of ((PE.or l1 l2).imp fun σ H Q w => rG_index (K := X.K) (rG_eq (fun ρ => by rw [evE]) w)) rfl
    · cases h
  | .count a y, EX, X, sc, fq, e', x, h => by
    unfold chkE at h
    split at h
    · simp only [Bool.and_eq_true, decide_eq_true_eq] at h
      obtain ⟨⟨⟨⟨⟨rfl, h1⟩, h2⟩, h3⟩, h4⟩, h5⟩ := h
      have l1 := pe_bm PySem.F.plainAttrs_list PySem.F.slot_list_count PySem.F.type_list_count (mt_cntL x.hu) (sndE a x h4).1 (pa_cons (sndE y x h5).1 pa_nil (star_cons h3)) (attr_plain h1) (few1 h3) (by rw [h2]; exact beq_self_eq_true _) (star_cons h3) rfl
      have l2 := pe_bmT PySem.F.slot_tuple_count PySem.F.type_tuple_count (mt_cntT x.hu) (sndE a x h4).1 (pa_cons (sndE y x h5).1 pa_nil (star_cons h3)) (attr_plain h1) (few1 h3) (by rw [h2]; exact beq_self_eq_true _) (star_cons h3) rfl
      exact good_of ((PE.or l1 l2).imp fun σ H Q w => rG_count (K := X.K) (rG_eq (fun ρ => by rw [evE]) w)) rfl
    · cases h
  | .insert a i y, EX, X, sc, fq, e', x, h => by
    unfold chkE at h
    split at h
    · simp only [Bool.and_eq_true, decide_eq_true_eq] at h
      obtain ⟨⟨⟨⟨⟨⟨⟨rfl, h1⟩, h2⟩, h3⟩, h4⟩, h5⟩, h6⟩, h7⟩ := h
      exact good_of ((pe_bm PySem.F.plainAttrs_list PySem.F.slot_list_insert PySem.F.type_list_insert mt_insert (sndE a x h5).1 (pa_cons (sndE i x h6).1 (pa_cons (sndE y x h7).1 pa_nil (star_cons h4)) (star_cons h3)) (attr_plain h1) (few2 h3 h4) (by rw [h2]; exact beq_self_eq_true _) (star_cons h3)
        (stars_none (by rw [List.all_cons, h4]; rfl))).imp fun σ H Q w => rG_insert (rG_eq (fun ρ => by rw [evE]) w)) rfl
    · cases h
  | .dctT _ _, EX, X, sc, fq, e', x, h => by unfold chkE at h; cases h
  | .dksT _ _, EX, X, sc, fq, e', x, h => by unfold chkE at h; cases h
  | .exF a f, EX, X, sc, fq, e', x, h => by
    unfold chkE at h
    split at h
    · simp only [Bool.and_eq_true, decide_eq_true_eq] at h
      obtain ⟨⟨⟨rfl, h1⟩, h2⟩, h3⟩ := h
      exact good_of ((pe_exF (Cs := T.C) (List.contains_iff_mem.mp h1) (sndE a x h3).1 (attr_plain h2)).imp fun σ H Q w => rG_exF (fun c k => x.cls c (x.clo c k)) (rG_eq (fun ρ => by rw [evE]) w)) rfl
    · cases h
  | .exI a cs, EX, X, sc, fq, e', x, h => by
    unfold chkE at h
    split at h
    · rename_i c f' a' t' p
      simp only [Bool.and_eq_true] at h
      obtain ⟨⟨⟨⟨h1, h2⟩, h3⟩, h4⟩, h5⟩ := h
      obtain ⟨p, rfl, hg⟩ := nameIs_of h1
      unfold clNames at h5
      simp only [Bool.and_eq_true] at h5
      obtain ⟨⟨⟨k1, k2⟩, k3⟩, _⟩ := h5
      obtain ⟨p2, rfl, hg2⟩ := nameIs_of k2
      have hc := List.contains_iff_mem.mp k1
      have ok := x.cls c hc
      have pn : PE X (.Name (clsNm c) p2) (tC (.ref (Cla.a c))) := pe_glob (x.gl' hg2) ok.gC rfl (okName_of k3).1
      exact good_of ((pe_callB (call_isE1 (Cs := T.C)) (x.gl' hg) (x.none' (by decide)) (by decide +kernel) (pa_cons (sndE a x h3).1 (pa_cons pn pa_nil (star_cons h4)) (star_cons h2)) (by decide) (by decide) (star_cons h2) (stars_none (by rw [List.all_cons, h4]; rfl))).imp
        fun σ H Q w => rG_exI1 (fun c k => x.cls c (x.clo c k)) hc ok (rG_eq (fun ρ => by rw [evE]) w)) rfl
    · rename_i c c2 cs f' a' ts k tp p
      simp only [Bool.and_eq_true] at h
      obtain ⟨⟨⟨⟨⟨h1, h2⟩, h3⟩, h4⟩, h5⟩, h6⟩ := h
      obtain ⟨p, rfl, hg⟩ := nameIs_of h1
      have hc := clNames_of h5
      exact good_of ((pe_callB (call_isE2 (Cs := T.C)) (x.gl' hg) (x.none' (by decide)) (by decide +kernel) (pa_cons (sndE a x h3).1 (pa_cons (pe_tup (pa_nms x h5 h4)) pa_nil (star_cons rfl)) (star_cons h2)) (by decide) (by decide) (star_cons h2) (stars_none rfl)).imp
        fun σ H Q w => rG_exI2 (fun c k => x.cls c (x.clo c k)) x.cls hc (by have := of_decide_eq_true h6; omega) (rG_eq (fun ρ => by rw [evE]) w)) rfl
    · cases h
  | .exV a, EX, X, sc, fq, e', x, h => by
    unfold chkE at h
    split at h
    · simp only [Bool.and_eq_true] at h
      obtain ⟨⟨⟨h1, h2⟩, h3⟩, h4⟩ := h
      obtain ⟨p, rfl, hg⟩ := nameIs_of h1
      obtain ⟨p2, rfl, hg2⟩ := nameIs_of h4
      have pn : PE X (.Name "ValueError" p2) (tC (.ty "ValueError")) := pe_bltn (x.gl' hg2) (x.none' (by decide)) (by decide +kernel) rfl (by decide) (by decide)
      exact good_of ((pe_callB (call_isE1 (Cs := T.C)) (x.gl' hg) (x.none' (by decide)) (by decide +kernel) (pa_cons (sndE a x h3).1 (pa_cons pn pa_nil (star_cons rfl)) (star_cons h2)) (by decide) (by decide) (star_cons h2) (stars_none rfl)).imp
        fun σ H Q w => rG_exV (fun c k => x.cls c (x.clo c k)) (rG_eq (fun ρ => by rw [evE]) w)) rfl
    · cases h
  | .exN ng a, EX, X, sc, fq, e', x, h => by
    unfold chkE at h
    split at h
    · simp only [Bool.and_eq_true, decide_eq_true_eq] at h
      obtain ⟨rfl, h1⟩ := h
      cases ng with
      | false =>
        have i : ∀ σ H Q, rG (efOf xr EX) DR (evE C (.exN false a)) σ H Q → tIsN (rG (efOf xr EX) DR (evE C a)) σ H Q := fun σ H Q w => (rG_mono (rG_exN (ng := false) (rG_eq (fun ρ => by rw [evE]) w)) fun v H1 q => q)
        exact ⟨(pe_cmp (pc_isN (sndE a x h1).1) rfl).imp i, fun _ => (pt_cmp (pc_isN (sndE a x h1).1) rfl).imp fun σ H Q w => tB_of i w⟩
      | true =>
        have i : ∀ σ H Q, rG (efOf xr EX) DR (evE C (.exN true a)) σ H Q → tNotN (rG (efOf xr EX) DR (evE C a)) σ H Q := fun σ H Q w => (rG_mono (rG_exN (ng := true) (rG_eq (fun ρ => by rw [evE]) w)) fun v H1 q => q)
        exact ⟨(pe_cmp (pc_notN (sndE a x h1).1) rfl).imp i, fun _ => (pt_cmp (pc_notN (sndE a x h1).1) rfl).imp fun σ H Q w => tB_of i w⟩
    · cases h
  | .bad, EX, X, sc, fq, e', x, h => by
    have nil : ∀ ρ, evE C .bad ρ = fail := fun ρ => by rw [evE]
    refine ⟨⟨fun pins s σ H Q I w => ?_⟩, fun _ => ⟨fun pins s σ H Q I w => ?_⟩⟩
    · obtain ⟨W, ρ, st, er, _, _, w⟩ := w
      rw [nil] at w
      exact w.elim
    · obtain ⟨W, ρ, st, er, _, _, w⟩ := w
      dsimp only at w
      rw [nil] at w
      exact w.elim
  | .rgv tp lo hi, EX, X, sc, fq, e', x, h => by
    unfold chkE at h
    rw [Bool.and_eq_true, Bool.not_eq_true'] at h
    obtain ⟨h0, h⟩ := h
    split at h
    · simp only [Bool.and_eq_true] at h
      obtain ⟨⟨⟨⟨h1, h2⟩, h3⟩, h4⟩, h5⟩ := h
      obtain ⟨p, rfl, hg⟩ := nameIs_of h1
      obtain ⟨p', rfl, hg'⟩ := nameIs_of h2
      have hlo : evO C lo = fun _ => pure none := by
        cases lo with
        | none => funext ρ; rw [evO]
        | some _ => unfold chkO at h4; cases h4
      have i : ∀ σ H Q, rG (efOf xr EX) DR (evE C (.rgv tp lo hi)) σ H Q → tRg1 (rG (efOf xr EX) DR (evE C hi)) σ H fun a b H1 => RgOk a b ∧ rgQ H1 (rgV a b) Q tp := fun σ H Q w => rG_rgv1 (tp := tp) hlo (rG_eq (fun ρ => by rw [evE]) w)
      cases tp with
      | false => exact good_of ((pe_listRg (x.calm h0) (x.gl' hg) (x.none' (by decide)) (prg_1 (x.gl' hg') (x.none' (by decide)) (sndE hi x h5).1 (star_cons h3)) (star_cons rfl)).imp i) rfl
      | true => exact good_of ((pe_tupRgS (x.calm h0) (x.gl' hg) (x.none' (by decide)) (prg_1 (x.gl' hg') (x.none' (by decide)) (sndE hi x h5).1 (star_cons h3)) (star_cons rfl)).imp i) rfl
    · simp only [Bool.and_eq_true] at h
      obtain ⟨⟨⟨⟨⟨h1, h2⟩, h3⟩, h3'⟩, h4⟩, h5⟩ := h
      obtain ⟨p, rfl, hg⟩ := nameIs_of h1
      obtain ⟨p', rfl, hg'⟩ := nameIs_of h2
      cases lo with
      | none => unfold chkO at h4; cases h4
      | some lo =>
        unfold chkO at h4
        have i : ∀ σ H Q, rG (efOf xr EX) DR (evE C (.rgv tp (.some lo) hi)) σ H Q → tRg2 (rG (efOf xr EX) DR (evE C lo)) (rG (efOf xr EX) DR (evE C hi)) σ H fun a b H1 => RgOk a b ∧ rgQ H1 (rgV a b) Q tp := fun σ H Q w => rG_rgv2 (tp := tp) (rG_eq (fun ρ => by rw [evE, evO]) w)
        cases tp with
        | false => exact good_of ((pe_listRg (x.calm h0) (x.gl' hg) (x.none' (by decide)) (prg_2 (x.gl' hg') (x.none' (by decide)) (sndE lo x h4).1 (sndE hi x h5).1 (star_cons h3) (star_cons h3') (by rw [star_cons h3']; rfl)) (star_cons rfl)).imp i) rfl
        | true => exact good_of ((pe_tupRgS (x.calm h0) (x.gl' hg) (x.none' (by decide)) (prg_2 (x.gl' hg') (x.none' (by decide)) (sndE lo x h4).1 (sndE hi x h5).1 (star_cons h3) (star_cons h3') (by rw [star_cons h3']; rfl)) (star_cons rfl)).imp i) rfl
    · cases h
  | .dct es, EX, X, sc, fq, e', x, h => by
    unfold chkE at h
    split at h
    · simp only [Bool.and_eq_true, decide_eq_true_eq] at h
      obtain ⟨trs, g1, g2, g3, g4⟩ := sndKv es x h.2
      exact good_of ((pe_disp (g1 _) g3 g4 (fun z => by rw [z] at h; simp at h) h.1.2).imp fun σ H Q w => rG_dct g2 (rG_eq (fun ρ => by rw [evE]) w)) rfl
    · cases h
  | .dget a k d, EX, X, sc, fq, e', x, h => by
    unfold chkE at h
    split at h
    · simp only [Bool.and_eq_true, decide_eq_true_eq] at h
      obtain ⟨⟨⟨⟨⟨⟨⟨rfl, h1⟩, h2⟩, h3⟩, h3'⟩, h4⟩, h5⟩, h6⟩ := h
      have hu : X.A.units + 1 < cLine := by have := x.hu; omega
      exact good_of ((pe_dget2 hu (sndE a x h4).1 (sndE k x h5).1 (sndE d x h6).1 ⟨attr_plain h1, by rw [star_cons h3, star_cons h3']; rfl, by rw [h2]; exact beq_self_eq_true _, by rw [star_cons h3, star_cons h3']; rfl⟩).imp fun σ H Q w => rG_dget2 (rG_eq (fun ρ => by rw [evE] <;> rfl) w)) rfl
    · cases h
  | .dks so a, EX, X, sc, fq, e', x, h => by
    unfold chkE at h
    rw [Bool.and_eq_true, Bool.not_eq_true'] at h
    obtain ⟨h0, h⟩ := h
    split at h
    · simp only [Bool.and_eq_true] at h
      obtain ⟨⟨h1, h2⟩, h3⟩ := h
      obtain ⟨p, rfl, hg⟩ := nameIs_of h1
      cases so with
      | false => exact good_of ((pe_callTy (call_list_dK (x.calm h0)) (x.gl' hg) (x.none' (by decide)) (by decide +kernel) (pa_cons (sndE a x h3).1 pa_nil (star_cons h2)) (by decide) (by decide) (star_cons h2) rfl).imp fun σ H Q w => rG_listD (rG_eq (fun ρ => by rw [evE] <;> rfl) w)) rfl
      | true => exact good_of ((pe_callB (call_sortedDI (x.calm h0)) (x.gl' hg) (x.none' (by decide)) (by decide +kernel) (pa_cons (sndE a x h3).1 pa_nil (star_cons h2)) (by decide) (by decide) (star_cons h2) rfl).imp fun σ H Q w => rG_sortD (rG_eq (fun ρ => by rw [evE] <;> rfl) w)) rfl
    · cases h
  | .dof a, EX, X, sc, fq, e', x, h => by
    unfold chkE at h
    rw [Bool.and_eq_true, Bool.not_eq_true'] at h
    obtain ⟨h0, h⟩ := h
    split at h
    · simp only [Bool.and_eq_true] at h
      obtain ⟨⟨h1, h2⟩, h3⟩ := h
      obtain ⟨p, rfl, hg⟩ := nameIs_of h1
      exact good_of ((pe_callTy (call_dictP (x.calm h0)) (x.gl' hg) (x.none' (by decide)) (by decide +kernel) (pa_cons (sndE a x h3).1 pa_nil (star_cons h2)) (by decide) (by decide) (star_cons h2) rfl).imp fun σ H Q w => rG_dof (K := X.K) (rG_eq (fun ρ => by rw [evE] <;> rfl) w)) rfl
    · cases h
  | .dofT a, EX, X, sc, fq, e', x, h => by
    unfold chkE at h
    rw [Bool.and_eq_true, Bool.not_eq_true'] at h
    obtain ⟨h0, h⟩ := h
    split at h
    · simp only [Bool.and_eq_true] at h
      obtain ⟨⟨h1, h2⟩, h3⟩ := h
      obtain ⟨p, rfl, hg⟩ := nameIs_of h1
      exact good_of ((pe_callTy (call_dictX x.hu (x.calm h0)) (x.gl' hg) (x.none' (by decide)) (by decide +kernel) (pa_cons (sndE a x h3).1 pa_nil (star_cons h2)) (by decide) (by decide) (star_cons h2) rfl).imp fun σ H Q w => rG_dofT (K := X.K) (rG_eq (fun ρ => by rw [evE] <;> rfl) w)) rfl
    · cases h
  | .sset a, EX, X, sc, fq, e', x, h => by
    unfold chkE at h
    rw [Bool.and_eq_true, Bool.not_eq_true'] at h
    obtain ⟨h0, h⟩ := h
    split at h
    · simp only [Bool.and_eq_true] at h
      obtain ⟨⟨⟨h1, h2⟩, h3⟩, h4⟩ := h
      obtain ⟨p, rfl, hg⟩ := nameIs_of h1
      obtain ⟨p2, rfl, hg2⟩ := nameIs_of h2
      exact good_of ((pe_callB (cr_sortedSet (x.calm h0)) (x.gl' hg) (x.none' (by decide)) (by decide +kernel)
        (pa_cons (pe_callTy (cr_setL (x.calm h0)) (x.gl' hg2) (x.none' (by decide)) (by decide +kernel) (pa_cons (sndE a x h4).1 pa_nil (star_cons h3)) (by decide) (by decide) (star_cons h3) rfl) pa_nil (star_cons rfl)) (by decide) (by decide) (star_cons rfl) rfl).imp fun σ H Q w => rG_sset (K := X.K) (rG_eq (fun ρ => by rw [evE] <;> rfl) w)) rfl
    · cases h
  | .upd a y, EX, X, sc, fq, e', x, h => by
    unfold chkE at h
    split at h
    · simp only [Bool.and_eq_true, decide_eq_true_eq] at h
      obtain ⟨⟨⟨⟨⟨rfl, h1⟩, h2⟩, h3⟩, h4⟩, h5⟩ := h
      exact good_of ((pe_bm PySem.F.plainAttrs_dict PySem.F.slot_dict_update PySem.F.type_dict_update mt_upd (sndE a x h4).1 (pa_cons (sndE y x h5).1 pa_nil (star_cons h3)) (attr_plain h1) (few1 h3) (by rw [h2]; exact beq_self_eq_true _) (star_cons h3) rfl).imp
        fun σ H Q w => rG_upd (rG_eq (fun ρ => by rw [evE]) w)) rfl
    · cases h
  | .ext a y, EX, X, sc, fq, e', x, h => by
    unfold chkE at h
    split at h
    · simp only [Bool.and_eq_true, decide_eq_true_eq] at h
      obtain ⟨⟨⟨⟨⟨rfl, h1⟩, h2⟩, h3⟩, h4⟩, h5⟩ := h
      exact good_of ((pe_bm PySem.F.plainAttrs_list PySem.F.slot_list_extend PySem.F.type_list_extend mt_extA (sndE a x h4).1 (pa_cons (sndE y x h5).1 pa_nil (star_cons h3)) (attr_plain h1) (few1 h3) (by rw [h2]; exact beq_self_eq_true _) (star_cons h3) rfl).imp
        fun σ H Q w => rG_ext (rG_eq (fun ρ => by rw [evE]) w)) rfl
    · cases h
  | .rev a, EX, X, sc, fq, e', x, h => by
    unfold chkE at h
    split at h
    · exact good_of ((pe_revA (sndE a x h).1).imp fun σ H Q w => rG_rev (rG_eq (fun ρ => by rw [evE] <;> rfl) w)) rfl
    · cases h
theorem sndKv : ∀ (es : Exs) {EX : L2.St → XK} {X : Cx} {sc : Scope} {fq : Str → Bool} {ks : List (Option Expr)} {vs : List Expr}, XOk T xr CX EX C k X N sc fq → chkKv T N sc fq es ks vs = true →
    ∃ trs, (∀ pos, PPs X pos ks vs trs) ∧ (∀ σ H (Q : List (V × V) → Hp → Prop), rG (efOf xr EX) RLst (evEs C es) σ H (fun vs H' => Q (pairV vs) H') → tPairs trs σ H Q) ∧ ks.all (·.isSome) = true ∧ ks.length = vs.length
  | .nil, EX, X, sc, fq, [], [], x, h => ⟨[], fun _ => pps_nil, fun σ H Q w => rG_pure (R := RLst) (b := ([] : List V)) (rG_eq (m' := fun _ => pure []) (fun ρ => by rw [evEs]) w) fun _ _ _ => DvAll.nil, rfl, rfl⟩
  | .nil, EX, X, sc, fq, _ :: _, _, x, h => by unfold chkKv at h; cases h
  | .nil, EX, X, sc, fq, [], _ :: _, x, h => by unfold chkKv at h; cases h
  | .cons _ .nil, EX, X, sc, fq, _, _, x, h => by unfold chkKv at h; cases h
  | .cons _ (.cons _ _), EX, X, sc, fq, [], _, x, h => by unfold chkKv at h; cases h
  | .cons _ (.cons _ _), EX, X, sc, fq, none :: _, _, x, h => by unfold chkKv at h; cases h
  | .cons _ (.cons _ _), EX, X, sc, fq, some _ :: _, [], x, h => by unfold chkKv at h; cases h
  | .cons a (.cons b es), EX, X, sc, fq, some a' :: ks, b' :: vs, x, h => by
    unfold chkKv at h
    simp only [Bool.and_eq_true] at h
    obtain ⟨trs, g1, g2, g3, g4⟩ := sndKv es x h.2
    refine ⟨_, fun pos => pps_cons (sndE a x h.1.1).1 (sndE b x h.1.2).1 (g1 pos), fun σ H Q w => ?_, by rw [List.all_cons, g3]; rfl, by rw [List.length_cons, List.length_cons, g4]⟩
    have w1 : rG (efOf xr EX) RLst (fun ρ => do
      let x ← evE C a ρ
      let u ← settle x
      let us ← evEs C (.cons b es) ρ
      pure (u :: us)) σ H (fun vs H' => Q (pairV vs) H') := rG_eq (fun ρ => by rw [evEs]) w
    refine rG_mono (rG_cons w1) ?_
    intro v H1 w2
    have w3 : rG (efOf xr EX) RLst (fun ρ => do
      let x ← evE C b ρ
      let u ← settle x
      let us ← evEs C es ρ
      pure (u :: us)) σ H1 (fun vs H' => Q (pairV (v :: vs)) H') := rG_eq (fun ρ => by rw [evEs]) w2
    refine rG_mono (rG_cons w3) ?_
    intro u H2 w4
    exact g2 σ H2 (fun ps H3 => Q ((v, u) :: ps) H3) w4
theorem sndEs : ∀ (es : Exs) {EX : L2.St → XK} {X : Cx} {sc : Scope} {fq : Str → Bool} {es' : List Expr}, XOk T xr CX EX C k X N sc fq → chkEs T N sc fq es es' = true →
    PA X es' (rG (efOf xr EX) RLst (evEs C es)) ∧ PA X es' (rG (efOf xr EX) RAs (evAs C es))
  | .nil, EX, X, sc, fq, [], x, h => ⟨pa_nil.imp fun σ H Q w => rG_pure (rG_eq (m' := fun _ => pure []) (fun ρ => by rw [evEs]) w) fun _ _ _ => .nil, pa_nil.imp fun σ H Q w => rG_pure (rG_eq (m' := fun _ => pure []) (fun ρ => by rw [evAs]) w) fun _ _ _ => .nil⟩
  | .nil, EX, X, sc, fq, _ :: _, x, h => by unfold chkEs at h; cases h
  | .cons _ _, EX, X, sc, fq, [], x, h => by unfold chkEs at h; cases h
  | .cons e es, EX, X, sc, fq, e' :: es', x, h => by
    unfold chkEs at h
    simp only [Bool.and_eq_true] at h
    obtain ⟨⟨h1, h2⟩, h3⟩ := h
    exact ⟨(pa_cons (sndE e x h2).1 (sndEs es x h3).1 (star_cons h1)).imp fun σ H Q w => rG_cons (rG_eq (fun ρ => by rw [evEs]) w), (pa_cons (sndE e x h2).1 (sndEs es x h3).2 (star_cons h1)).imp fun σ H Q w => rG_args (rG_eq (fun ρ => by rw [evAs]) w)⟩
theorem sndO : ∀ (o : Opt) {EX : L2.St → XK} {X : Cx} {sc : Scope} {fq : Str → Bool} {o' : Option Expr}, XOk T xr CX EX C k X N sc fq → chkO T N sc fq o o' = true → PO X o' (rG (efOf xr EX) REq (evO C o))
  | .none, EX, X, sc, fq, none, x, h => po_none.imp fun σ H Q w => rG_pure (rG_eq (m' := fun _ => pure none) (fun ρ => by rw [evO]) w) fun _ _ _ => rfl
  | .none, EX, X, sc, fq, some _, x, h => by unfold chkO at h; cases h
  | .some _, EX, X, sc, fq, none, x, h => by unfold chkO at h; cases h
  | .some e, EX, X, sc, fq, some e', x, h => by
    unfold chkO at h
    exact (po_some (sndE e x h).1).imp fun σ H Q w => rG_part (rG_eq (fun ρ => by rw [evO]) w)
theorem sndIf : ∀ (o : Opt) {EX : L2.St → XK} {X : Cx} {sc : Scope} {fq : Str → Bool} {es' : List Expr}, XOk T xr CX EX C k X N sc fq → chkIf T N sc fq o es' = true → PTs X es' (rG (efOf xr EX) REq (evIf C o))
  | .none, EX, X, sc, fq, [], x, h => pts_nil.imp fun σ H Q w => rG_pure (rG_eq (m' := fun _ => pure true) (fun ρ => by rw [evIf]) w) fun _ _ _ => rfl
  | .none, EX, X, sc, fq, _ :: _, x, h => by unfold chkIf at h; cases h
  | .some _, EX, X, sc, fq, [], x, h => by unfold chkIf at h; cases h
  | .some _, EX, X, sc, fq, _ :: _ :: _, x, h => by unfold chkIf at h; cases h
  | .some e, EX, X, sc, fq, [e'], x, h => by
    unfold chkIf at h
    simp only [Bool.and_eq_true] at h
    exact (pts_one ((sndE e x h.2).2 h.1)).imp fun σ H Q w => rG_eq (fun ρ => by rw [evIf]) w
theorem sndTg : ∀ (t : Tg) {EX : L2.St → XK} {X : Cx} {sc : Scope} {fq : Str → Bool} {e' : Expr}, XOk T xr CX EX C k X N sc fq → chkTg T N sc fq t e' = true → PG X e' (rT (evTg C t) (tgNames t))
  | .name i, EX, X, sc, fq, e', x, h => by
    unfold chkTg at h
    split at h
    · simp only [Bool.and_eq_true, decide_eq_true_eq] at h
      obtain ⟨l1, l2⟩ := x.sto h.2
      exact (pg_name (by rw [x.names]; exact x.nd) (by rw [x.names]; exact h.1) l1 l2).imp fun v σ H Q w => tg_name (rT_eq (fun d ρ => by rw [evTg]) (by rw [tgNames]) w)
    · cases h
  | .tup ts, EX, X, sc, fq, e', x, h => by
    unfold chkTg at h
    rw [Bool.and_eq_true, Bool.not_eq_true'] at h
    obtain ⟨h0, h⟩ := h
    split at h
    · obtain ⟨g1, g2, g3, g4⟩ := sndTgs ts x h
      exact (pg_tup (x.calm h0) g1 (g2.trans g4) g3).imp fun v σ H Q w => tg_tup (K := X.K) (rT_eq (fun d ρ => by rw [evTg] <;> rfl) (by rw [tgNames]) w)
    · cases h
  | .sub a b, EX, X, sc, fq, e', x, h => by
    unfold chkTg at h
    split at h
    · simp only [Bool.and_eq_true] at h
      obtain ⟨⟨h1, h2⟩, h3⟩ := h
      exact (pg_sub (sndE a x h2).1 (sndE b x h3).1 set_list (sub_asg h1)).imp fun v σ H Q w => tg_sub (rT_eq (fun d ρ => by rw [evTg]) (by rw [tgNames]) w)
    · cases h
  | .subD a b, EX, X, sc, fq, e', x, h => by
    unfold chkTg at h
    split at h
    · simp only [Bool.and_eq_true] at h
      obtain ⟨⟨h1, h2⟩, h3⟩ := h
      have hu : X.A.units + 1 < cLine := by have := x.hu; omega
      exact (pg_sub (sndE a x h2).1 (sndE b x h3).1 (set_x hu) (sub_asg h1)).imp fun v σ H Q w => tg_subD (rT_eq (fun d ρ => by rw [evTg]) (by rw [tgNames]) w)
    · cases h
theorem sndTgs : ∀ (ts : Tgs) {EX : L2.St → XK} {X : Cx} {sc : Scope} {fq : Str → Bool} {es' : List Expr}, XOk T xr CX EX C k X N sc fq → chkTgs T N sc fq ts es' = true →
    PGs X es' (rTs (evTgs C ts) (tgsNames ts)) ∧ (assignEach es' X.env).length = es'.length ∧ (assignEach es' X.env).findIdx? (·.1) = none ∧ es'.length = tgsLen ts
  | .nil, EX, X, sc, fq, [], x, h => ⟨pgs_nil.imp fun v σ H Q w => tg_nil (fun ρ => by rw [evTgs]) (fun a xs ρ => by rw [evTgs]; all_goals simp) (rTs_eq (fun _ _ => rfl) (by rw [tgsNames]) w), rfl, rfl, rfl⟩
  | .nil, EX, X, sc, fq, _ :: _, x, h => by unfold chkTgs at h; cases h
  | .cons _ _, EX, X, sc, fq, [], x, h => by unfold chkTgs at h; cases h
  | .cons t ts, EX, X, sc, fq, e :: es, x, h => by
    unfold chkTgs at h
    simp only [Bool.and_eq_true] at h
    obtain ⟨⟨h1, h2⟩, h3⟩ := h
    obtain ⟨g1, g2, g3, g4⟩ := sndTgs ts x h3
    have q := asg_cons (X := X) (es := es) h1
    refine ⟨(pgs_cons (sndTg t x h2) g1 (by rw [q] <;> rfl)).imp fun v σ H Q w => tg_cons (fun ρ => by rw [evTgs]; all_goals simp) (fun a xs ρ => by rw [evTgs]) (rTs_eq (fun _ _ => rfl) (by rw [tgsNames]) w), ?_, ?_, ?_⟩
    · rw [q, List.length_cons, g2, List.length_cons]
    · rw [q]
      simp [List.findIdx?_cons, g3]
    · rw [List.length_cons, g4, tgsLen]
theorem sndIt : ∀ (it : It) {EX : L2.St → XK} {X : Cx} {sc : Scope} {fq : Str → Bool} {tg e' : Expr}, XOk T xr CX EX C k X N sc fq → chkIt T N sc fq it tg e' = true → PI X tg e' (rG (efOf xr EX) RI (evIt C it))
  | .val e, EX, X, sc, fq, tg, e', x, h => by
    unfold chkIt at h
    exact (pi_seq (sndE e x h).1).imp fun σ H R w => rI_val (rG_eq (fun ρ => by rw [evIt] <;> rfl) w)
  | .rng1 a, EX, X, sc, fq, tg, e', x, h => by
    unfold chkIt at h
    split at h
    · simp only [Bool.and_eq_true] at h
      obtain ⟨⟨h1, h2⟩, h3⟩ := h
      obtain ⟨p, rfl, hg⟩ := nameIs_of h1
      exact (pi_range1 (x.gl' hg) (x.none' (by decide)) (pa_cons (sndE a x h3).1 pa_nil (star_cons h2)) (star_cons h2)).imp fun σ H R w => rI_rng1 (rG_eq (fun ρ => by rw [evIt]) w)
    · cases h
  | .rng2 a b, EX, X, sc, fq, tg, e', x, h => by
    unfold chkIt at h
    split at h
    · simp only [Bool.and_eq_true] at h
      obtain ⟨⟨⟨⟨h1, h2⟩, h3⟩, h4⟩, h5⟩ := h
      obtain ⟨p, rfl, hg⟩ := nameIs_of h1
      exact (pi_range2 (x.gl' hg) (x.none' (by decide)) (pa_cons (sndE a x h4).1 (pa_cons (sndE b x h5).1 pa_nil (star_cons h3)) (star_cons h2)) (by rw [star_cons h2, star_cons h3] <;> rfl) (star_cons h3)).imp fun σ H R w => rI_rng2 (rG_eq (fun ρ => by rw [evIt]) w)
    · cases h
  | .rng3 a b c, EX, X, sc, fq, tg, e', x, h => by
    unfold chkIt at h
    split at h
    · simp only [Bool.and_eq_true] at h
      obtain ⟨⟨⟨⟨⟨⟨h1, h2⟩, h3⟩, h4⟩, h5⟩, h6⟩, h7⟩ := h
      obtain ⟨p, rfl, hg⟩ := nameIs_of h1
      exact (pi_range3 (x.gl' hg) (x.none' (by decide)) (pa_cons (sndE a x h5).1 (pa_cons (sndE b x h6).1 (pa_cons (sndE c x h7).1 pa_nil (star_cons h4)) (star_cons h3)) (star_cons h2)) (star_cons h2) (by rw [star_cons h3, star_cons h4] <;> rfl)).imp fun σ H R w => rI_rng3 (rG_eq (fun ρ => by rw [evIt]) w)
    · cases h
  | .enum a, EX, X, sc, fq, tg, e', x, h => by
    unfold chkIt at h
    split at h
    · simp only [Bool.and_eq_true] at h
      obtain ⟨⟨h1, h2⟩, h3⟩ := h
      obtain ⟨p, rfl, hg⟩ := nameIs_of h1
      exact (pi_enumA (x.gl' hg) (x.none' (by decide)) (pa_cons (sndE a x h3).1 pa_nil (star_cons h2)) (star_cons h2)).imp fun σ H R w => rI_enum (rG_eq (fun ρ => by rw [evIt] <;> rfl) w)
    · cases h
  | .zip es, EX, X, sc, fq, tg, e', x, h => by
    unfold chkIt at h
    split at h
    · rename_i tg1 tg2 tg3 f' a' es' pos
      simp only [Bool.and_eq_true, decide_eq_true_eq] at h
      obtain ⟨⟨h1, h2⟩, h3⟩ := h
      obtain ⟨p, rfl, hg⟩ := nameIs_of h1
      match es', h2, h3 with
      | [b'], _, h3 =>
        have st := chkEs_star h3
        have st2 := list_cons st
        exact (pi_zipM2 (x.gl' hg) (x.none' (by decide)) (sndEs es x h3).2 (star_cons st2.1) (stars_none st2.2)).imp fun σ H R w => rI_zip (rG_eq (fun ρ => by rw [evIt] <;> rfl) w)
    · cases h
  | .zip3 es, EX, X, sc, fq, tg, e', x, h => by
    unfold chkIt at h
    split at h
    · rename_i tg1 tg2 tg3 f' a' es' pos
      simp only [Bool.and_eq_true, decide_eq_true_eq] at h
      obtain ⟨⟨h1, h2⟩, h3⟩ := h
      obtain ⟨p, rfl, hg⟩ := nameIs_of h1
      match es', h2, h3 with
      | [b', c'], _, h3 =>
        have st := chkEs_star h3
        have st2 := list_cons st
        exact (pi_zipM3 (x.gl' hg) (x.none' (by decide)) (sndEs es x h3).2 (star_cons st2.1) (stars_none st2.2)).imp fun σ H R w => rI_zip3 (rG_eq (fun ρ => by rw [evIt] <;> rfl) w)
    · cases h
end
end
end MP
end MSnM

section MSt
set_option Elab.async false
set_option linter.all false
set_option maxRecDepth 100000
set_option autoImplicit false
set_option maxHeartbeats 8000000
/-! MSt: the machine does at statements what the evaluator says. -/
namespace MP
open PySem PySem.Spec PyProof.Rows L2
variable [Cla]
variable {Fx : FX} {Ef : L2.St → FX} {Xp : Exc → Store → Prop}

inductive OutV where
  | next (σ : L2.St)
  | cnt (σ : L2.St)
  | brk (σ : L2.St)
  | ret (v : V)
def ROut : Hp → Wd → Hp → OutV → Out → Prop
  | _, W, H, .next σ, .next ρ => EnvR W H ρ σ
  | _, W, H, .cnt σ, .cnt ρ => EnvR W H ρ σ
  | _, W, H, .brk σ, .brk ρ => EnvR W H ρ σ
  | H0, W, H, .ret v, .ret d => DR H0 W H v d
  | _, _, _, _, _ => False
def toE (D : Ends) : OutV → Hp → Prop
  | .next σ, H => D.nx σ H
  | .cnt σ, H => D.ct σ H
  | .brk σ, H => D.bk σ H
  | .ret v, H => D.rt v H
def rS (Fx : FX) (m : Env → M Out) : TS := fun D σ H => ∃ W0 H0 W ρ st, EnvR W H ρ σ ∧ At Fx W0 H0 ROut (m ρ) W H st (toE D)
theorem rS_eq {m m' : Env → M Out} {D : Ends} {σ : L2.St} {H : Hp} (e : ∀ ρ, m ρ = m' ρ) (h : rS Fx m D σ H) : rS Fx m' D σ H := by
  rw [show m' = m from (funext e).symm]
  exact h
/-- a run, then its outcome is looked at -/
theorem At.flow {W0 W : Wd} {H0 H : Hp} {m : M Out} {k : Out → M Out} {st : Store} {D D' : Ends} (h : At Fx W0 H0 ROut (m >>= k) W H st (toE D))
    (i : ∀ b a W1 H1 st1, Ext W H W1 H1 → ROut H W1 H1 b a → At Fx W0 H0 ROut (k a) W1 H1 st1 (toE D) → toE D' b H1) : At Fx W H ROut m W H st (toE D') :=
  (At.bind (R1 := ROut) h).mono fun b H1 ⟨a, W1, st1, x, r, h1⟩ => i b a W1 H1 st1 x r h1
theorem At.bindB {α β γ δ : Type} {R : Hp → Wd → Hp → β → α → Prop} {R1 : Hp → Wd → Hp → δ → γ → Prop} {W0 W Wb : Wd} {H0 H Hb : Hp} {m : M γ} {k : γ → M α} {st : Store} {Q : β → Hp → Prop} (h : At Fx W0 H0 R (m >>= k) W H st Q) (x : Ext Wb Hb W H) (xb : Ext W0 H0 Wb Hb) :
    At Fx Wb Hb R1 m W H st fun b H1 => ∃ a W1 st1, Ext Wb Hb W1 H1 ∧ R1 Hb W1 H1 b a ∧ At Fx W0 H0 R (k a) W1 H1 st1 Q := by
  obtain ⟨_, g, w⟩ := h
  rw [wp_bind] at w
  exact ⟨x, g, wp_mono2 w (fun a s w' W' H' b x' g' r => ⟨a, W', s, x', r, xb.trans x', g', w'⟩) fun e s w' W' H' x' g' => w' W' H' (xb.trans x') g'⟩
section
variable {W0 W : Wd} {H0 H : Hp} {st : Store} {De : Ends} {σ : L2.St}
theorem At.next {ρ : Env} (h : At Fx W0 H0 ROut (Pure.pure (.next ρ)) W H st (toE De)) (er : EnvR W H ρ σ) : De.nx σ H := h.pure W H (.next σ) h.1 h.2.1 er
theorem rS_ret {m : Env → M D} (h : rS Fx (fun ρ => do
    let x ← m ρ
    pure (.ret x)) De σ H) : tRet (rG (fun _ => Fx) DR m) De σ H := by
  obtain ⟨W0, H0, W, ρ, st, er, h⟩ := h
  refine ⟨W, ρ, st, er, (At.bind (R1 := DR) h).mono ?_⟩
  rintro v H1 ⟨d, W1, st1, x1, r1, h1⟩
  exact h1.pure W1 H1 (.ret v) h1.1 h1.2.1 (r1.base fun p n => h.1.fresh n)
theorem rS_expr {m : Env → M D} (h : rS Fx (fun ρ => do
    let _ ← m ρ
    pure (.next ρ)) De σ H) : tDrop (rG (fun _ => Fx) DR m) De σ H := by
  obtain ⟨W0, H0, W, ρ, st, er, h⟩ := h
  refine ⟨W, ρ, st, er, (At.bind (R1 := DR) h).mono ?_⟩
  rintro v H1 ⟨d, W1, st1, x1, r1, h1⟩
  exact h1.next (er.mono x1)
theorem rS_asg {m : Env → M D} {t : D → Env → M Env} {ns : List Nat} (h : rS Fx (fun ρ => do
    let x ← m ρ
    let ρ' ← noX (t x ρ)
    pure (.next ρ')) De σ H) : tAsg (rG (fun _ => Fx) DR m) (rT t ns) De σ H := by
  obtain ⟨W0, H0, W, ρ, st, er, h⟩ := h
  refine ⟨W, ρ, st, er, (At.bind (R1 := DR) h).mono ?_⟩
  rintro v H1 ⟨d, W1, st1, x1, r1, h1⟩
  refine ⟨W, H, W1, ρ, st1, d, er.mono x1, r1, (At.drop (At.bindB (R1 := REnv) h1 x1 h.1)).mono ?_⟩
  rintro σ' H2 ⟨ρ2, W2, st2, x2, er2, h2⟩ _
  exact h2.next er2
theorem rS_par {i j : Nat} {m : Env → M (List D)} (h : rS Fx (fun ρ => do
    let xs ← m ρ
    match xs with
    | [x, y] => pure (.next ((ρ.set i (some x)).set j (some y)))
    | _ => fail) De σ H) : tPar i j (rG (fun _ => Fx) RAs m) De σ H := by
  obtain ⟨W0, H0, W, ρ, st, er, h⟩ := h
  refine ⟨W, ρ, st, er, (At.bind (R1 := RAs) h).mono ?_⟩
  rintro vs H1 ⟨ds, W1, st1, x1, r1, h1⟩
  replace r1 : Paired (DE W1 H1) vs ds := r1
  revert h1
  split
  · intro h1
    cases r1 with
    | cons a r1 =>
      cases r1 with
      | cons b r1 =>
        cases r1
        exact ⟨_, _, rfl, h1.next (((er.mono x1).set a i).set b j)⟩
  · intro h1
    exact h1.2.2.elim
theorem rS_par3 {i j l : Nat} {m : Env → M (List D)} (h : rS Fx (fun ρ => do
    let xs ← m ρ
    match xs with
    | [x, y, z] => pure (.next (((ρ.set i (some x)).set j (some y)).set l (some z)))
    | _ => fail) De σ H) : tPar3 i j l (rG (fun _ => Fx) RAs m) De σ H := by
  obtain ⟨W0, H0, W, ρ, st, er, h⟩ := h
  refine ⟨W, ρ, st, er, (At.bind (R1 := RAs) h).mono ?_⟩
  rintro vs H1 ⟨ds, W1, st1, x1, r1, h1⟩
  replace r1 : Paired (DE W1 H1) vs ds := r1
  revert h1
  split
  · intro h1
    cases r1 with
    | cons a r1 =>
      cases r1 with
      | cons b r1 =>
        cases r1 with
        | cons c r1 =>
          cases r1
          exact ⟨_, _, _, rfl, h1.next ((((er.mono x1).set a i).set b j).set c l)⟩
  · intro h1
    exact h1.2.2.elim
theorem rS_if {c : Env → M Bool} {a b : Env → M Out} (h : rS Fx (fun ρ => c ρ >>= fun k => match k with
    | true => a ρ
    | false => b ρ) De σ H) : tIfS (rG (fun _ => Fx) REq c) (rS Fx a) (rS Fx b) De σ H := by
  obtain ⟨W0, H0, W, ρ, st, er, h⟩ := h
  refine ⟨W, ρ, st, er, (At.bind (R1 := REq) h).mono ?_⟩
  rintro k H1 ⟨k', W1, st1, x1, rfl, h1⟩
  cases k with
  | true => rw [if_pos rfl]; exact ⟨W0, H0, W1, ρ, st1, er.mono x1, h1⟩
  | false => rw [if_neg (by decide)]; exact ⟨W0, H0, W1, ρ, st1, er.mono x1, h1⟩
theorem rS_seq {a b : Env → M Out} (h : rS Fx (fun ρ => a ρ >>= fun o => match o with
    | .next ρ' => b ρ'
    | o => pure o) De σ H) : tSeq (rS Fx a) (rS Fx b) De σ H := by
  obtain ⟨W0, H0, W, ρ, st, er, h⟩ := h
  refine ⟨W, H, W, ρ, st, er, At.flow h ?_⟩
  intro v o W1 H1 st1 x1 r1 h1
  cases v <;> cases o <;> first
    | exact r1.elim
    | exact ⟨W0, H0, W1, _, st1, r1, h1⟩
    | exact h1.pure W1 H1 (.cnt _) h1.1 h1.2.1 r1
    | exact h1.pure W1 H1 (.brk _) h1.1 h1.2.1 r1
    | exact h1.pure W1 H1 (.ret _) h1.1 h1.2.1 (DR.base (fun p n => h.1.fresh n) r1)
theorem frz_ref {i : Nat} {ρ : Env} {st : Store} {P : Env → Store → Prop} (w : MP.wp Xp (frzE i ρ) st P) : ∃ j xs, ρ[i]? = some (some (.ref j)) ∧ st[j]? = some (.lst xs) ∧ P (ρ.set i (some (.dat (.list xs)))) (st.set j .dead) := by
  unfold frzE at w
  cases hj : ρ[i]? with
  | none => rw [hj] at w; exact w.elim
  | some o =>
    cases o with
    | none => rw [hj] at w; exact w.elim
    | some d =>
      cases d with
      | ref j =>
        rw [hj] at w
        unfold MP.wp at w
        cases hst : st[j]? with
        | none => simp only [hst] at w
        | some c =>
          cases c with
          | lst xs => simp only [hst] at w; exact ⟨j, xs, rfl, hst, w⟩
          | _ => simp only [hst] at w
      | _ => rw [hj] at w; exact w.elim
theorem rS_frz {i : Nat} {b : Env → M Out} (h : rS Fx (fun ρ => frzE i ρ >>= b) De σ H) : rS Fx b De σ H := by
  obtain ⟨W0, H0, W, ρ, st, er, x, g, w⟩ := h
  rw [wp_bind] at w
  obtain ⟨j, xs, hj, hst, w⟩ := frz_ref w
  obtain ⟨v, hv, a, ha, rfl⟩ := er.2 i (.ref j) hj
  obtain ⟨n, vs, hl, q⟩ := g.live hst ha
  refine ⟨W0, H0, W.addI a, _, _, ?_, x.still (List.mem_of_getElem? ha), g.still ha, w⟩
  refine ⟨by rw [List.length_set, er.1], fun l d hd => ?_⟩
  by_cases hl' : i = l
  · subst hl'
    by_cases hlen : i < ρ.length
    · rw [List.getElem?_set_self hlen] at hd
      cases hd
      exact ⟨_, hv, .lst (.inl rfl) (.inl hl) q.own⟩
    · rw [List.getElem?_eq_none (by rw [List.length_set]; omega)] at hd
      cases hd
  · rw [List.getElem?_set_ne hl'] at hd
    obtain ⟨u, hu, r⟩ := er.2 l d hd
    exact ⟨u, hu, r.own⟩
theorem rS_for {mi : Env → M (List PyData)} {t : D → Env → M Env} {ns : List Nat} {b : Env → M Out} (h : rS Fx (fun ρ => mi ρ >>= fun xs => forGo (fun x ρ' => noX (t (.dat x) ρ') >>= fun ρ2 => b ρ2) xs ρ) De σ H) :
    tFor (rG (fun _ => Fx) RI mi) (rT t ns) (rS Fx b) De σ H := by
  obtain ⟨W0, H0, W, ρ, st, er, h⟩ := h
  refine ⟨W, ρ, st, er, (At.bind (R1 := RI) h).mono ?_⟩
  rintro J H1 ⟨xs, W1, st1, x1, y1, h1⟩
  refine ⟨fun i m σ Hc => m = xs.length - i ∧ i ≤ xs.length ∧ ∃ W2 ρ2 st2, Ext W1 H1 W2 Hc ∧ EnvR W2 Hc ρ2 σ ∧ At Fx W0 H0 ROut (forGo (fun x ρ' => noX (t (.dat x) ρ') >>= fun ρ2 => b ρ2) (xs.drop i) ρ2) W2 Hc st2 (toE De),
    ⟨xs.length, by simp, Nat.zero_le _, W1, ρ, st1, .refl, er.mono x1, h1⟩, ?_⟩
  rintro i m σ2 Hc ⟨rfl, hi, W2, ρ2, st2, x2, er2, h2⟩
  obtain ⟨ystop, ygo⟩ := y1 W2 Hc i x2
  by_cases hlt : i < xs.length
  · have hx : xs[i]? = some xs[i] := List.getElem?_eq_getElem hlt
    obtain ⟨go, yl⟩ := ygo _ hx
    rw [List.drop_eq_getElem_cons hlt] at h2
    refine .inr ⟨go, fun σ' H' => i + 1 ≤ xs.length ∧ ∃ W2 ρ2 st2, Ext W1 H1 W2 H' ∧ EnvR W2 H' ρ2 σ' ∧ At Fx W0 H0 ROut (forGo (fun x ρ' => noX (t (.dat x) ρ') >>= fun ρ2 => b ρ2) (xs.drop (i + 1)) ρ2) W2 H' st2 (toE De),
      fun σ' H' hw => ⟨xs.length - (i + 1), by omega, rfl, hw⟩, fun v H' hy => ?_⟩
    obtain ⟨W3, x3, dv, g3⟩ := yl v H' hy
    have h3 := h2.go (h2.1.trans x3) (g3 _ h2.2.1)
    unfold forGo at h3
    have h4 := At.assoc h3
    refine ⟨W3, H', W3, ρ2, st2, .dat xs[i], er2.mono x3, dv, (At.drop (At.bind (R1 := REnv) h4)).mono ?_⟩
    rintro σ4 H4 ⟨ρ4, W4, st4, x4, er4, h5⟩ _
    refine ⟨W4, H4, W4, ρ4, st4, er4, At.flow h5 ?_⟩
    intro w o W5 H5 st5 x5 r5 h6
    have x15 := (x2.trans x3).trans (x4.trans x5)
    cases w <;> cases o <;> first
      | exact r5.elim
      | exact ⟨hlt, W5, _, st5, x15, r5, h6⟩
      | exact h6.pure W5 H5 (.next _) h6.1 h6.2.1 r5
      | exact h6.pure W5 H5 (.ret _) h6.1 h6.2.1 (DR.base (fun p n => h5.1.fresh n) r5)
  · have e : i = xs.length := by omega
    subst e
    rw [List.drop_length] at h2
    exact .inl ⟨ystop (Nat.le_refl _), At.next (ρ := ρ2) h2 er2⟩
theorem rS_forT {mi : Env → M (List Tr)} {t : D → Env → M Env} {ns : List Nat} {b : Env → M Out} (h : rS Fx (fun ρ => mi ρ >>= fun xs => forGo (fun x ρ' => noX (t (trD x) ρ') >>= fun ρ2 => b ρ2) xs ρ) De σ H) :
    tFor (rG (fun _ => Fx) RIT mi) (rT t ns) (rS Fx b) De σ H := by
  obtain ⟨W0, H0, W, ρ, st, er, h⟩ := h
  refine ⟨W, ρ, st, er, (At.bind (R1 := RIT) h).mono ?_⟩
  rintro J H1 ⟨xs, W1, st1, x1, y1, h1⟩
  refine ⟨fun i m σ Hc => m = xs.length - i ∧ i ≤ xs.length ∧ ∃ W2 ρ2 st2, Ext W1 H1 W2 Hc ∧ EnvR W2 Hc ρ2 σ ∧ At Fx W0 H0 ROut (forGo (fun x ρ' => noX (t (trD x) ρ') >>= fun ρ2 => b ρ2) (xs.drop i) ρ2) W2 Hc st2 (toE De),
    ⟨xs.length, by simp, Nat.zero_le _, W1, ρ, st1, .refl, er.mono x1, h1⟩, ?_⟩
  rintro i m σ2 Hc ⟨rfl, hi, W2, ρ2, st2, x2, er2, h2⟩
  obtain ⟨ystop, ygo⟩ := y1 W2 Hc i x2
  by_cases hlt : i < xs.length
  · have hx : xs[i]? = some xs[i] := List.getElem?_eq_getElem hlt
    obtain ⟨go, yl⟩ := ygo _ hx
    rw [List.drop_eq_getElem_cons hlt] at h2
    refine .inr ⟨go, fun σ' H' => i + 1 ≤ xs.length ∧ ∃ W2 ρ2 st2, Ext W1 H1 W2 H' ∧ EnvR W2 H' ρ2 σ' ∧ At Fx W0 H0 ROut (forGo (fun x ρ' => noX (t (trD x) ρ') >>= fun ρ2 => b ρ2) (xs.drop (i + 1)) ρ2) W2 H' st2 (toE De),
      fun σ' H' hw => ⟨xs.length - (i + 1), by omega, rfl, hw⟩, fun v H' hy => ?_⟩
    obtain ⟨W3, x3, dv, g3⟩ := yl v H' hy
    have h3 := h2.go (h2.1.trans x3) (g3 _ h2.2.1)
    unfold forGo at h3
    have h4 := At.assoc h3
    refine ⟨W3, H', W3, ρ2, st2, trD xs[i], er2.mono x3, DE.dr dv, (At.drop (At.bind (R1 := REnv) h4)).mono ?_⟩
    rintro σ4 H4 ⟨ρ4, W4, st4, x4, er4, h5⟩ _
    refine ⟨W4, H4, W4, ρ4, st4, er4, At.flow h5 ?_⟩
    intro w o W5 H5 st5 x5 r5 h6
    have x15 := (x2.trans x3).trans (x4.trans x5)
    cases w <;> cases o <;> first
      | exact r5.elim
      | exact ⟨hlt, W5, _, st5, x15, r5, h6⟩
      | exact h6.pure W5 H5 (.next _) h6.1 h6.2.1 r5
      | exact h6.pure W5 H5 (.ret _) h6.1 h6.2.1 (DR.base (fun p n => h5.1.fresh n) r5)
  · have e : i = xs.length := by omega
    subst e
    rw [List.drop_length] at h2
    exact .inl ⟨ystop (Nat.le_refl _), At.next (ρ := ρ2) h2 er2⟩
theorem At.cell {W0 W : Wd} {H0 H : Hp} {α β : Type} {R : Hp → Wd → Hp → β → α → Prop} {Q : β → Hp → Prop} {st : Store} {i : Nat} {a : Addr} {k : List PyData → M α} (h : At Fx W0 H0 R (MP.cellAt i >>= k) W H st Q) (ha : W.eta[i]? = some a) : ∃ xs vs, ¬ W.im a ∧ H a = some (.lst vs) ∧ DvAll W.im H vs xs ∧ At Fx W0 H0 R (k xs) W H st Q := by
  obtain ⟨xs, vs, _, n, hv, q, h⟩ := h.cellAt ha
  exact ⟨xs, vs, n, hv, q, h⟩
/-- a walk over what a for asks -/
def ForB (g : TG) (tb : TS) (D : Ends) (J : L2.It) (σ : L2.St) (H1 : Hp) : Prop := ∃ W : Nat → Nat → L2.St → Hp → Prop, (∃ m, W 0 m σ H1) ∧ ∀ i m σ H, W i m σ H →
  (J.stop i H ∧ D.nx σ H) ∨ (J.go i H ∧ ∃ N : L2.St → Hp → Prop, (∀ σ' H', N σ' H' → ∃ m', m' < m ∧ W (i + 1) m' σ' H') ∧ ∀ x H', J.yld i H x H' → g x σ H' fun σ2 H2 => tb { D with nx := N, ct := N, bk := D.nx } σ2 H2)
theorem for_core {t : D → Env → M Env} {ns : List Nat} {b : Env → M Out} {J : L2.It} {xs : List PyData} {W1 : Wd} {H1 : Hp} {ρ : Env} {st1 : Store} {σ : L2.St} (y1 : Yld W1 H1 J xs) (er : EnvR W1 H1 ρ σ) (h1 : At Fx W0 H0 ROut (forGo (fun x ρ' => noX (t (.dat x) ρ') >>= fun ρ2 => b ρ2) xs ρ) W1 H1 st1 (toE De)) :
    ForB (rT t ns) (rS Fx b) De J σ H1 := by
  refine ⟨fun i m σ Hc => m = xs.length - i ∧ i ≤ xs.length ∧ ∃ W2 ρ2 st2, Ext W1 H1 W2 Hc ∧ EnvR W2 Hc ρ2 σ ∧ At Fx W0 H0 ROut (forGo (fun x ρ' => noX (t (.dat x) ρ') >>= fun ρ2 => b ρ2) (xs.drop i) ρ2) W2 Hc st2 (toE De),
    ⟨xs.length, by simp, Nat.zero_le _, W1, ρ, st1, .refl, er, h1⟩, ?_⟩
  rintro i m σ2 Hc ⟨rfl, hi, W2, ρ2, st2, x2, er2, h2⟩
  obtain ⟨ystop, ygo⟩ := y1 W2 Hc i x2
  by_cases hlt : i < xs.length
  · have hx : xs[i]? = some xs[i] := List.getElem?_eq_getElem hlt
    obtain ⟨go, yl⟩ := ygo _ hx
    rw [List.drop_eq_getElem_cons hlt] at h2
    refine .inr ⟨go, fun σ' H' => i + 1 ≤ xs.length ∧ ∃ W2 ρ2 st2, Ext W1 H1 W2 H' ∧ EnvR W2 H' ρ2 σ' ∧ At Fx W0 H0 ROut (forGo (fun x ρ' => noX (t (.dat x) ρ') >>= fun ρ2 => b ρ2) (xs.drop (i + 1)) ρ2) W2 H' st2 (toE De),
      fun σ' H' hw => ⟨xs.length - (i + 1), by omega, rfl, hw⟩, fun v H' hy => ?_⟩
    obtain ⟨W3, x3, dv, g3⟩ := yl v H' hy
    have h3 := h2.go (h2.1.trans x3) (g3 _ h2.2.1)
    unfold forGo at h3
    have h4 := At.assoc h3
    refine ⟨W3, H', W3, ρ2, st2, .dat xs[i], er2.mono x3, dv, (At.drop (At.bind (R1 := REnv) h4)).mono ?_⟩
    rintro σ4 H4 ⟨ρ4, W4, st4, x4, er4, h5⟩ _
    refine ⟨W4, H4, W4, ρ4, st4, er4, At.flow h5 ?_⟩
    intro w o W5 H5 st5 x5 r5 h6
    have x15 := (x2.trans x3).trans (x4.trans x5)
    cases w <;> cases o <;> first
      | exact r5.elim
      | exact ⟨hlt, W5, _, st5, x15, r5, h6⟩
      | exact h6.pure W5 H5 (.next _) h6.1 h6.2.1 r5
      | exact h6.pure W5 H5 (.ret _) h6.1 h6.2.1 (DR.base (fun p n => h5.1.fresh n) r5)
  · have e : i = xs.length := by omega
    subst e
    rw [List.drop_length] at h2
    exact .inl ⟨ystop (Nat.le_refl _), At.next (ρ := ρ2) h2 er2⟩
theorem live_core {K : PySem.W.Frag} {t : D → Env → M Env} {ns : List Nat} {b : Env → M Out} {i N : Nat} {a : Addr} {W1 : Wd} {H1 : Hp} {ρ : Env} {st1 : Store} {σ : L2.St} (ha : W1.eta[i]? = some a) (er : EnvR W1 H1 ρ σ) (h1 : At Fx W0 H0 ROut (liveGo (fun x ρ' => noX (t (.dat x) ρ') >>= fun ρ2 => b ρ2) i N 0 ρ) W1 H1 st1 (toE De)) :
    ForB (rT t ns) (rS Fx b) De (IteS K false a) σ H1 := by
  refine ⟨fun k m σ Hc => ∃ W2 ρ2 st2, W2.eta[i]? = some a ∧ EnvR W2 Hc ρ2 σ ∧ At Fx W0 H0 ROut (liveGo (fun x ρ' => noX (t (.dat x) ρ') >>= fun ρ2 => b ρ2) i m k ρ2) W2 Hc st2 (toE De),
    ⟨N, W1, ρ, st1, ha, er, h1⟩, ?_⟩
  rintro k m σ2 Hc ⟨W2, ρ2, st2, ha2, er2, h3⟩
  cases m with
  | zero => exact h3.2.2.elim
  | succ m =>
    unfold liveGo at h3
    obtain ⟨xs, vs, ni, hv, q, h4⟩ := h3.cell ha2
    cases hx : xs[k]? with
    | none =>
      rw [hx] at h4
      refine .inl ⟨⟨vs, .inl (.inl hv), ?_⟩, At.next (ρ := ρ2) h4 er2⟩
      rw [q.length]
      exact List.getElem?_eq_none_iff.mp hx
    | some y =>
      rw [hx] at h4
      obtain ⟨w, hw, dw⟩ := q.get hx
      refine .inr ⟨⟨vs, w, .inl (.inl hv), hw⟩, fun σ' H' => ∃ W3 ρ3 st3, W3.eta[i]? = some a ∧ EnvR W3 H' ρ3 σ' ∧ At Fx W0 H0 ROut (liveGo (fun x ρ' => noX (t (.dat x) ρ') >>= fun ρ2 => b ρ2) i m (k + 1) ρ3) W3 H' st3 (toE De),
        fun σ' H' hw => ⟨m, Nat.lt_succ_self m, hw⟩, fun v H' hy => ?_⟩
      obtain ⟨w', hp, hall⟩ := hy
      have z := hall vs (.inl (.inl hv))
      rw [hw] at z
      cases z
      obtain ⟨W3, x3, dv, g3⟩ := pair_new hp (.int (k : Nat)) dw
      have h5 := h4.go (h4.1.trans x3) (g3 _ h4.2.1)
      have h6 := At.assoc h5
      have ha3 : W3.eta[i]? = some a := x3.at ha2
      refine ⟨W3, H', W3, ρ2, st2, .dat (.tuple [.int (k : Nat), y]), er2.mono x3, dv, (At.drop (At.bind (R1 := REnv) h6)).mono ?_⟩
      rintro σ4 H4 ⟨ρ4, W4, st4, x4, er4, h7⟩ _
      refine ⟨W4, H4, W4, ρ4, st4, er4, At.flow h7 ?_⟩
      intro w2 o W5 H5 st5 x5 r5 h8
      have ha5 : W5.eta[i]? = some a := (x4.trans x5).at ha3
      cases w2 <;> cases o <;> first
        | exact r5.elim
        | exact ⟨W5, _, st5, ha5, r5, h8⟩
        | exact h8.pure W5 H5 (.next _) h8.1 h8.2.1 r5
        | exact h8.pure W5 H5 (.ret _) h8.1 h8.2.1 (DR.base (fun p n => h7.1.fresh n) r5)
theorem rS_forE {K : PySem.W.Frag} {me : Env → M D} {t : D → Env → M Env} {ns : List Nat} {b : Env → M Out} {N : Nat} (h : rS Fx (fun ρ => me ρ >>= fun x => enumGo (fun x ρ' => noX (t (.dat x) ρ') >>= fun ρ2 => b ρ2) N (keep x) ρ) De σ H) :
    tFor (iEnumA K (tCons (rG (fun _ => Fx) DR me) tNil)) (rT t ns) (rS Fx b) De σ H := by
  obtain ⟨W0, H0, W, ρ, st, er, h⟩ := h
  refine ⟨W, ρ, st, er, (At.bind (R1 := DR) h).mono ?_⟩
  rintro v H1 ⟨d, W1, st1, x1, r1, h1⟩
  obtain ⟨W2, x2, g2, k2, ke, _⟩ := keep_own (W' := W1) (H' := H1) r1 x1 h1.2.1
  have er2 := ke _ _ (er.mono x1)
  have h2 : At Fx W0 H0 ROut (enumGo (fun x ρ' => noX (t (.dat x) ρ') >>= fun ρ2 => b ρ2) N (keep d) ρ) W2 H1 st1 (toE De) := ⟨h.1.trans x2, g2, h1.2.2⟩
  clear h1
  generalize keep d = d2 at h2 k2
  cases d2 with
  | ref i =>
    obtain ⟨a, ha, rfl⟩ := k2
    cases N with
    | zero => exact h2.2.2.elim
    | succ N =>
      have h3 := h2
      unfold enumGo liveGo at h3
      obtain ⟨xs0, vs0, n0, hv0, q0, _⟩ := h3.cell ha
      exact ⟨false, a, vs0, rfl, .inl (.inl hv0), live_core ha er2 h2⟩
  | dat u =>
    cases u with
    | list xs =>
      cases (show Dv W2.im H1 v (.list xs) from k2) with
      | lst i r q => exact ⟨false, _, _, rfl, .inl r, for_core (yld_enum (tp := false) (.lst i r q)) er2 h2⟩
    | tuple xs =>
      cases (show Dv W2.im H1 v (.tuple xs) from k2) with
      | tup i r q => exact ⟨true, _, _, rfl, r.sq, for_core (yld_enum (tp := true) (.tup i r q)) er2 h2⟩
    | _ => exact h2.2.2.elim
  | _ => exact h2.2.2.elim
theorem rS_while {c : Env → M Bool} {b : Env → M Out} {n : Nat} (h : rS Fx (fun ρ => whileGo c b n ρ) De σ H) : tWhile (rG (fun _ => Fx) REq c) (rS Fx b) De σ H := by
  obtain ⟨W0, H0, W, ρ, st, er, h⟩ := h
  refine ⟨fun m σ Hc => ∃ W2 ρ2 st2, EnvR W2 Hc ρ2 σ ∧ At Fx W0 H0 ROut (whileGo c b m ρ2) W2 Hc st2 (toE De), ⟨n, W, ρ, st, er, h⟩, ?_⟩
  rintro m σ2 Hc ⟨W2, ρ2, st2, er2, h2⟩
  cases m with
  | zero => exact h2.2.2.elim
  | succ m =>
    unfold whileGo at h2
    refine ⟨W2, ρ2, st2, er2, (At.bind (R1 := REq) h2).mono ?_⟩
    rintro k H3 ⟨k', W3, st3, x3, rfl, h3⟩
    cases k with
    | false =>
      rw [if_neg (by decide)]
      exact At.next h3 (er2.mono x3)
    | true =>
      rw [if_pos rfl]
      refine ⟨fun σ' H' => ∃ W2 ρ2 st2, EnvR W2 H' ρ2 σ' ∧ At Fx W0 H0 ROut (whileGo c b m ρ2) W2 H' st2 (toE De), fun σ' H' hw => ⟨m, Nat.lt_succ_self m, hw⟩, W3, H3, W3, ρ2, st3, er2.mono x3, At.flow h3 ?_⟩
      intro w o W5 H5 st5 x5 r5 h6
      cases w <;> cases o <;> first
        | exact r5.elim
        | exact ⟨W5, _, st5, r5, h6⟩
        | exact h6.pure W5 H5 (.next _) h6.1 h6.2.1 r5
        | exact h6.pure W5 H5 (.ret _) h6.1 h6.2.1 (DR.base (fun p n => h3.1.fresh n) r5)
end
end MP
end MSt

section MSs
set_option Elab.async false
set_option linter.all false
set_option maxRecDepth 100000
set_option autoImplicit false
set_option maxHeartbeats 8000000
/-! MSs: the machine does at statements what the evaluator says: the proof by the syntax. -/
namespace MP
open PySem PySem.Spec PyProof.Rows L2
variable [Cla]

section
variable {T : Tab} {xr : XR} {CX : CXT} {EX : L2.St → XK} {C : Ctx} {k : Nat} {X : Cx} {N : List Str} {sc : Scope} {fq : Str → Bool}
theorem noComp_sw {e : Expr} {tg : Option Expr} {l : Nat} {env : PySem.Env} (h : noComp e = true) : swapsWith e tg l env = pure false := by
  cases e <;> first | rfl | (cases h)
theorem st_none {tg e : Expr} {env : PySem.Env} (h : ((noTup tg && noLst tg) || (noTup e && noLst tg)) = true) (h2 : noLst tg = true) : swappedStores [tg] e env = pure none := by
  cases tg <;> first
    | rfl
    | (cases h2; done)
    | (cases e <;> first | rfl | (cases h; done))
theorem filt_le {f : Expr → Option Str} : ∀ {ts : List Expr}, (ts.filterMap f).length ≤ ts.length
  | [] => Nat.le_refl _
  | t :: ts => by
    rw [List.filterMap_cons]
    have := filt_le (f := f) (ts := ts)
    cases f t with
    | none => rw [List.length_cons]; simp only; omega
    | some _ => rw [List.length_cons]; simp only [List.length_cons]; omega
theorem filt_lt {f : Expr → Option Str} {sc : Scope} : ∀ {ts : List Expr}, (∀ t, notLocal sc t = true → f t = none) → ts.any (notLocal sc) = true → (ts.filterMap f).length < ts.length
  | [], _, h => by cases h
  | t :: ts, hf, h => by
    rw [List.any_cons, Bool.or_eq_true] at h
    rw [List.filterMap_cons]
    have le := filt_le (f := f) (ts := ts)
    rcases h with h | h
    · rw [hf t h, List.length_cons]
      simp only
      omega
    · have := filt_lt hf h
      cases f t with
      | none => rw [List.length_cons]; simp only; omega
      | some _ => rw [List.length_cons]; simp only [List.length_cons]; omega
theorem any2 {f : Expr → Bool} {a b : Expr} (ha : f a = false) (hb : f b = false) : [a, b].any f = false := by
  simp [ha, hb]
theorem filt2 {f : Expr → Option Str} {a b : Expr} {x y : Str} (ha : f a = some x) (hb : f b = some y) : [a, b].filterMap f = [x, y] := by
  simp [ha, hb]
theorem st_tup {ts vs : List Expr} {a b : Nat} {p q : Pos} {sc : Scope} {env : PySem.Env} (hsc : env.scope = sc) (h : (!(ts.length == 2 || ts.length == 3) || ts.any (notLocal sc)) = true) : swappedStores [.Tuple ts a p] (.Tuple vs b q) env = pure none := by
  unfold swappedStores
  simp only []
  split
  · rfl
  · rename_i h1
    split
    · rfl
    · have h3 : ts.any (notLocal sc) = true := by
        cases hl : (ts.length == 2 || ts.length == 3) with
        | true => rw [hl] at h; exact h
        | false => rw [hl] at h1; simp at h1
      have hlt : ∀ f : Expr → Option Str, (∀ t, notLocal sc t = true → f t = none) → ((ts.filterMap f).length != ts.length) = true := fun f hf => by
        have := filt_lt hf h3
        rw [bne_iff_ne]
        omega
      rw [if_pos]
      rw [Bool.or_eq_true]
      refine .inl (hlt _ fun t ht => ?_)
      cases t <;> first | rfl | skip
      rename_i y py
      simp only [notLocal, Bool.not_eq_true'] at ht
      have : (env.kindOf y == some NameKind.local) = false := by
        show (env.scope.names.lookup y == some NameKind.local) = false
        rw [hsc]
        exact ht
      simp only [this]
      rfl
theorem st_par {x y : Str} {px py pt pt2 : Pos} {kt k2 : Nat} {a b : Expr} {env : PySem.Env} (hk : env.scope.kind = .function) (hx : env.scope.names.lookup x = some .local) (hy : env.scope.names.lookup y = some .local) (ne : x ≠ y) (hl : px.line = py.line)
    (s1 : noStar a = true) (s2 : noStar b = true) (f : ([a, b].all (foldedForSure 8)) = false) (c : ([a, b].all (constantsAlone 8)) = false) : swappedStores [.Tuple [.Name x px, .Name y py] kt pt] (.Tuple [a, b] k2 pt2) env = pure (some [x, y]) := by
  have kx : env.kindOf x = some .local := hx
  have ky : env.kindOf y = some .local := hy
  have hb : env.blockKind = .function := by unfold Env.blockKind; rw [hk]; rfl
  have st : ∀ e : Expr, noStar e = true → (match e with | .Starred .. => true | _ => false) = false := fun e h => by cases e <;> first | rfl | (cases h)
  unfold swappedStores
  simp only []
  have ne' : (y == x) = false := by rw [beq_eq_false_iff_ne]; exact Ne.symm ne
  have e1 : (!([Expr.Name x px, Expr.Name y py].length == 2 || [Expr.Name x px, Expr.Name y py].length == 3) || [a, b].length != [Expr.Name x px, Expr.Name y py].length || env.blockKind != .function) = false := by rw [hb]; rfl
  rw [if_neg (by rw [e1]; decide)]
  rw [if_neg (by rw [any2 (by cases a <;> first | rfl | (cases s1)) (by cases b <;> first | rfl | (cases s2))]; decide)]
  rw [filt2 (x := x) (y := y) (by simp [kx, Expr.pos]) (by simp [ky, Expr.pos, hl])]
  have e4 : ([x, y].length != [Expr.Name x px, Expr.Name y py].length || [x, y].eraseDups.length != [x, y].length) = false := by
    simp [List.eraseDups_cons, ne']
  rw [if_neg (by rw [e4]; decide), if_neg (by rw [f]; decide), if_neg (by rw [c]; decide)]
theorem any3 {f : Expr → Bool} {a b c : Expr} (ha : f a = false) (hb : f b = false) (hc : f c = false) : [a, b, c].any f = false := by
  simp [ha, hb, hc]
theorem filt3 {f : Expr → Option Str} {a b c : Expr} {x y z : Str} (ha : f a = some x) (hb : f b = some y) (hc : f c = some z) : [a, b, c].filterMap f = [x, y, z] := by
  simp [ha, hb, hc]
theorem st_par3 {x y z : Str} {px py pz pt pt2 : Pos} {kt k2 : Nat} {a b c : Expr} {env : PySem.Env} (hk : env.scope.kind = .function) (hx : env.scope.names.lookup x = some .local) (hy : env.scope.names.lookup y = some .local) (hz : env.scope.names.lookup z = some .local) (ne : x ≠ y ∧ x ≠ z ∧ y ≠ z) (hl : px.line = py.line ∧ px.line = pz.line)
    (s1 : noStar a = true) (s2 : noStar b = true) (s3 : noStar c = true) (f : ([a, b, c].all (foldedForSure 8)) = false) (g : ([a, b, c].all (constantsAlone 8)) = false) : swappedStores [.Tuple [.Name x px, .Name y py, .Name z pz] kt pt] (.Tuple [a, b, c] k2 pt2) env = pure (some [x, y, z]) := by
  have kx : env.kindOf x = some .local := hx
  have ky : env.kindOf y = some .local := hy
  have kz : env.kindOf z = some .local := hz
  have hb : env.blockKind = .function := by unfold Env.blockKind; rw [hk]; rfl
  unfold swappedStores
  simp only []
  have ne1 : (y == x) = false := by rw [beq_eq_false_iff_ne]; exact Ne.symm ne.1
  have ne2 : (z == x) = false := by rw [beq_eq_false_iff_ne]; exact Ne.symm ne.2.1
  have ne3 : (z == y) = false := by rw [beq_eq_false_iff_ne]; exact Ne.symm ne.2.2
  have e1 : (!([Expr.Name x px, Expr.Name y py, Expr.Name z pz].length == 2 || [Expr.Name x px, Expr.Name y py, Expr.Name z pz].length == 3) || [a, b, c].length != [Expr.Name x px, Expr.Name y py, Expr.Name z pz].length || env.blockKind != .function) = false := by rw [hb]; rfl
  rw [if_neg (by rw [e1]; decide)]
  rw [if_neg (by rw [any3 (by cases a <;> first | rfl | (cases s1)) (by cases b <;> first | rfl | (cases s2)) (by cases c <;> first | rfl | (cases s3))]; decide)]
  rw [filt3 (x := x) (y := y) (z := z) (by simp [kx, Expr.pos]) (by simp [ky, Expr.pos, hl.1]) (by simp [kz, Expr.pos, hl.2])]
  have e4 : ([x, y, z].length != [Expr.Name x px, Expr.Name y py, Expr.Name z pz].length || [x, y, z].eraseDups.length != [x, y, z].length) = false := by
    simp [List.eraseDups_cons, ne1, ne2, ne3]
  rw [if_neg (by rw [e4]; decide), if_neg (by rw [f]; decide), if_neg (by rw [g]; decide)]
/-- what is known where statements run -/
structure SOk (X : Cx) : Prop where
  kind : X.env.scope.kind = .function
  own : PassesOwn (model X.prog X.w) X.A X.env X.xe
  stk : X.stack = X.env :: X.outer
  frm : X.env.frame = some X.env.locals
  ex : X.ex = []
def fxOf (xr : XR) (E : XK) : FX := fun W H x => ∀ c d, xr W.im H x c d → E c d H
/-- a subscript's store with an operator, by values -/
def rGetL : V → V → Hp → VK → Prop := fun x y H Q => ∃ p xs i j v, x = .ref p ∧ y = .int i ∧ H p = some (.lst xs) ∧ ixN xs.length i = some j ∧ -(2 ^ 62) ≤ i ∧ i < 2 ^ 62 ∧ xs[j]? = some v ∧ Q v H
theorem get_L : PGet X rGetL := by
  intro pins s σ H x y ov iv Q I rx ry h
  obtain ⟨p, xs, i, j, v, rfl, rfl, hp, hj, b1, b2, hv, q⟩ := h
  cases rx
  obtain ⟨t, rfl⟩ := ry
  obtain ⟨its, r, pl, hz⟩ := I.list (.inl (.inl hp))
  obtain ⟨u, hu, ru⟩ := r.get hv
  have hl := r.length
  obtain ⟨s1, s2, s3, s4⟩ := ixN_seq hj
  by_cases h0 : 0 ≤ i
  · have e : i.toNat = j := by
      unfold ixN at hj
      rw [if_pos h0, if_pos s4] at hj
      exact Option.some.inj hj
    exact wpAny_getItem_list pl.isList h0 (by omega) (x := u) (by rw [e]; simpa using hu) ⟨v, H, I, ru, q⟩
  · have e : (i + (its.toArray.size : Int)).toNat = j := by
      unfold ixN at hj
      rw [if_neg h0, if_pos s3] at hj
      rw [List.size_toArray, ← hl]
      exact Option.some.inj hj
    exact wpAny_getItem_list_neg pl.isList (by omega) (by rw [List.size_toArray, ← hl]; omega) (by omega) (x := u) (by rw [e]; simpa using hu) ⟨v, H, I, ru, q⟩
def augM (op : Bop) (ma mb me : Env → M D) (ρ : Env) : M Out := do
    let p ← ma ρ
    let y ← mb ρ
    let k ← asInt y
    let i ← refOf p
    let xs ← cellAt i
    guardB (small k)
    let j ← ofO (ixPl xs.length k)
    let old ← ofO xs[j]?
    let z ← me ρ
    let u ← look z
    let r ← ofO (augV op old u)
    let xs' ← cellAt i
    let j' ← ofO (ixPl xs'.length k)
    putCell i (.lst (xs'.set j' r))
    pure (.next ρ)
def augF : Bop → Int → Int → Int
  | .sub => fun i j => i - j
  | _ => fun i j => i + j
theorem rS_aug {Fx : FX} {K : PySem.W.Frag} {De : Ends} {σ : L2.St} {H : Hp} {op : Bop} {ma mb me : Env → M D} (hop : op = .add ∨ op = .sub) (h : rS Fx (augM op ma mb me) De σ H) : tAugS (rG (fun _ => Fx) DR ma) (rG (fun _ => Fx) DR mb) (rG (fun _ => Fx) DR me) rGetL (ipI (augF op)) rSetL De σ H := by
  obtain ⟨W0, H0, W, ρ, st, er, h⟩ := h
  unfold augM at h
  refine ⟨W, ρ, st, er, (At.bind (R1 := DR) h).mono ?_⟩
  rintro o H1 ⟨p, W1, st1, x1, r1, h1⟩
  refine ⟨W1, ρ, st1, er.mono x1, (At.bind (R1 := DR) h1).mono ?_⟩
  rintro y H2 ⟨dy, W2, st2, x2, r2, h2⟩
  obtain ⟨k, rfl, h3⟩ := h2.asInt r2
  obtain ⟨i, a, rfl, ha, rfl, h4⟩ := h3.refOf (r1.mono x2)
  obtain ⟨xs, vs, _, n, hv, q, h5⟩ := h4.cellAt ha
  obtain ⟨hs, h6⟩ := h5.guard
  have hs' : -1000000 ≤ k ∧ k ≤ 1000000 := by simpa [small] using hs
  obtain ⟨j, hj, h7⟩ := h6.ofO
  obtain ⟨old, ho, h8⟩ := h7.ofO
  obtain ⟨v, hv', dv⟩ := q.get ho
  refine ⟨a, vs, k, j, v, rfl, rfl, hv, by rw [q.length]; exact hj, by omega, by omega, hv', ?_⟩
  refine ⟨W2, ρ, st2, (er.mono x1).mono x2, (At.bind (R1 := DR) h8).mono ?_⟩
  rintro z H3 ⟨dz, W3, st3, x3, r3, h9⟩
  obtain ⟨u, hu, h10⟩ := h9.look r3
  obtain ⟨r, hr, h11⟩ := h10.ofO
  have ha3 : W3.eta[i]? = some a := x3.at ha
  obtain ⟨xs', vs', _, n', hv3, q', h12⟩ := h11.cellAt ha3
  obtain ⟨j', hj', h13⟩ := h12.ofO
  have dv3 := x3.dv dv
  have fin : ∀ w : Int, r = .int w → rSetL (.ref a) (.int k) (.int w) H3 fun H4 => De.nx σ H4 := fun w e => by
    subst e
    refine ⟨a, vs', k, j', rfl, rfl, hv3, by rw [q'.length]; exact hj', ?_⟩
    have h14 := h13.putCell (o := .lst (vs'.set j' (.int w))) ha3 n' ⟨n', _, upd_same, DvAll.set (.int w) j' (q'.write n')⟩
    exact h14.next (((er.mono x1).mono (x2.trans x3)).write n')
  rcases hop with rfl | rfl
  · unfold augV at hr
    split at hr <;> first | (cases hr; done) | skip
    · cases hr
      cases dv3
      exact ⟨_, _, rfl, hu.int, fin _ rfl⟩
    · rename_i z; cases z
  · unfold augV at hr
    split at hr <;> first | (cases hr; done) | skip
    · rename_i z; cases z
    · cases hr
      cases dv3
      exact ⟨_, _, rfl, hu.int, fin _ rfl⟩
end
end MP
end MSs

section MTry
set_option Elab.async false
set_option linter.all false
set_option maxRecDepth 100000
set_option autoImplicit false
set_option maxHeartbeats 4000000
/-! MTry: the base's __init__, an own __init__, raise, and try with the caught exception tracked. -/
namespace MP
open PySem PySem.Spec PyProof.Rows L2
variable [Cla]
/-! ### a caught exception is tracked -/
section
variable {X : Cx} {pins : List (Addr × Obj)} {σ : L2.St} {H : Hp} {s : Shared}
theorem Inv.track (I : Inv X pins σ H s) {a C : Addr} {d : Option Addr} {oe : Obj} {vs : Array Value} (h1 : s.heap.get? a = some oe) (h2 : oe.cls = .ref C) (h3 : oe.dict = d) (h4 : oe.data = .fields vs) (na : H a = none) (n0 : X.s_0.heap.get? a = none) (nL : a ≠ X.env.locals) (np : ∀ p ∈ X.pn ++ pins, p.1 ≠ a) :
    Inv (X.suite a (X.pn ++ pins)) [] σ (upd H a (exb a C d)) s :=
  ⟨I.ok.suite _ _, I.os, I.bare, ⟨I.base.keep, I.base.slot, fun b o e n hx => by
      rw [upd_ne (show b ≠ a from fun z => by rw [z, n0] at e; cases e)]
      exact I.base.free b o e n hx, I.base.there, fun b xs e => by
      have := I.base.tups b xs e
      rw [upd_ne (ne_of_none this na)]
      exact this, fun b o u e => by
      have := I.base.frzs b o u e
      rw [upd_ne (ne_of_none this na)]
      exact this, fun b ps e => by
      obtain ⟨more, z⟩ := I.base.tbls b ps e
      exact ⟨more, by rw [upd_ne (ne_of_none z na)]; exact z⟩⟩, I.loc, I.cell, by
      rw [upd_ne (Ne.symm nL)]
      exact I.free, fun y c e => by
      obtain ⟨v, z⟩ := I.cell y c e
      have ne : c ≠ a := fun q => by
        subst q
        obtain ⟨o, z1, z2⟩ := z
        rw [h1] at z1
        cases z1
        rw [h4] at z2
        cases z2
      rw [upd_ne ne]
      exact I.freeC y c e, fun p hp => by
      have hp' : p ∈ X.pn ++ pins := by rw [List.append_nil] at hp; exact hp
      obtain ⟨z1, z2, z3, z4, z5⟩ := I.pin p hp'
      exact ⟨z1, by rw [upd_ne (np p hp')]; exact z2, z3, z4, z5⟩, I.hok.laidN (fun _ _ z => z) na (exb_ok h1 h2 h3 h4), I.len⟩
theorem Inv.untry {a : Addr} {pn' : List (Addr × Obj)} (I : Inv (X.suite a (X.pn ++ pins)) pn' σ H s) (ok : X.Ok) : Inv X pins σ H s :=
  ⟨ok, I.os, I.bare, I.base, I.loc, I.cell, I.free, I.freeC, fun p hp => I.pin p (List.mem_append_left _ hp), I.hok, I.len⟩
end
/-- the name of an except clause: its place and itself -/
abbrev ExNm := Option (Nat × Str)
/-- behind the suite the name is gone -/
def goneE (i : ExNm) (D : Ends) : Ends := match i with
  | none => D
  | some (i, _) => { nx := fun σ' => D.nx (σ'.set i none), rt := D.rt, bk := fun σ' => D.bk (σ'.set i none), ct := fun σ' => D.ct (σ'.set i none) }
def bindE (i : ExNm) (a : Addr) (σ : L2.St) : L2.St := match i with
  | none => σ
  | some (i, _) => σ.set i (some (.ref a))
/-- each exception of the body is of the clause's class, and the suite does with it as ts tells -/
def wTr (K : PySem.W.Frag) (c : Value) (i : ExNm) (ts : TS) (D : Ends) : WX := fun cls d σ H =>
  PySem.W.exmOne K cls c = some true ∧ ∃ C, cls = .ref C ∧ ∀ a, H a = none → ts (goneE i D) (bindE i a σ) (upd H a (exb a C d))
/-- an exception over this frame, and all that is known of the rest -/
structure Over (X : Cx) (pins : List (Addr × Obj)) (σ : L2.St) (H : Hp) (a : Addr) (C : Addr) (d : Option Addr) (B : Heap) (s : Shared) : Prop where
  inv : Inv X pins σ H s
  fly : HandSPX.FlyingZ B (X.env :: X.outer) a (Zc (.ref C) d) s.heap
  na : H a = none
  old : X.s_0.heap.get? a = none
  nL : a ≠ X.env.locals
  np : ∀ p ∈ X.pn ++ pins, p.1 ≠ a
section
variable {X : Cx} {pins : List (Addr × Obj)} {σ : L2.St} {H : Hp} {s : Shared} {a C : Addr} {d : Option Addr} {B : Heap}
theorem Over.track (o : Over X pins σ H a C d B s) : Inv (X.suite a (X.pn ++ pins)) [] σ (upd H a (exb a C d)) s := by
  obtain ⟨ob, vs, e1, ⟨e2, e3⟩, e4⟩ := o.fly.there
  exact Inv.track o.inv e1 e2 e3 e4 o.na o.old o.nL o.np
theorem Over.cls (o : Over X pins σ H a C d B s) {M : Model} : PySem.W.Looks M s.heap (typeOf (.ref a)) (.ref C) := by
  obtain ⟨ob, vs, e1, ⟨e2, _⟩, _⟩ := o.fly.there
  intro A Q E t k q
  exact wpAny_typeOf_ref (k _ _ e1) (e2 ▸ q)
/-- what is in the air of a try's body comes down -/
theorem over_of {pn : List (Addr × Obj)} {xe : Value → Shared → Prop} {sI : Shared} {cls : Value} (ok : X.Ok) (hex : X.ex = []) (hs : X.stack = X.env :: X.outer) (hf : X.env.frame = some X.env.locals) (hpn : pn = X.pn ++ pins) (I : Inv (X.tr pn xe) [] σ H sI ∨ ∃ q, Inv (X.tr pn xe) q σ H sI)
    (nb : ∀ b o, sI.heap.get? b = some o → b ∉ frs X.stack → B.get? b = some o) (up : sI.heap.UpToSlots s.heap) (fly : HandSPX.FlyingZ B (X.env :: X.outer) a (Zc cls d) s.heap) (na : H a = none) (os : s.os = sI.os) (ag : AllBare s.gens) (ec : cls = .ref C) : Over X pins σ H a C d B s := by
  subst ec hpn
  have J : Inv X pins σ H sI := by
    rcases I with I | ⟨q, I⟩ <;> exact I.ofTry ok
  obtain ⟨ob, vs, e1, _, e4⟩ := fly.there
  have far : a ∉ frs (X.env :: X.outer) := fun hm => by
    obtain ⟨_, o2, z, k⟩ := fly.2.2.1.mem hm
    cases e1.symm.trans z
    exact k _ e4
  have ne : ∀ o, sI.heap.get? a ≠ some o := fun o q => by
    have := nb a o q (hs ▸ far)
    rw [fly.2.1] at this
    exact nomatch this
  refine ⟨J.landed nb fly.1 up os ag, fly, na, ?_, fun z => far (List.mem_filterMap.mpr ⟨X.env, List.mem_cons_self .., hf.trans (z ▸ rfl)⟩), fun p hp z => ne _ (z ▸ (J.pin p hp).1)⟩
  rcases q : X.s_0.heap.get? a with _ | o
  · rfl
  · obtain ⟨o2, z⟩ := J.base.there a o q (hex ▸ List.not_mem_nil)
    exact (ne _ z).elim
end
section
variable {X : Cx} {x : Str} {c : Value} {body su : List Stmt} {b0 : Stmt} {np pos hp : Pos} {tb : WX → TS} {ts : TS}
theorem ps_tryT (nm : ExNm) (hs : X.stack = X.env :: X.outer) (hf : X.env.frame = some X.env.locals) (hex : X.ex = []) (hN : X.N.Nodup) (hi : ∀ p ∈ nm, X.N[p.1]? = some p.2 ∧ X.env.kindOf p.2 = some .local) (hc : Names X x c)
    (hb : ∀ (W : WX) (pn : List (Addr × Obj)) (xe : Value → Shared → Prop), Takes (X.tr pn xe) W → PassesOwn (model X.prog X.w) X.A X.env xe → PSs (X.tr pn xe) body (tb W)) (hsu : ∀ a pn, PSs (X.suite a pn) (b0 :: su) ts) :
    PS X (.Try body [.ExceptHandler (some (.Name x np)) (nm.map (·.2)) (b0 :: su) hp] [] [] pos) (fun D σ H => tb (wTr X.K c nm ts D) D σ H) := by
  constructor
  intro pins s σ H D I w
  have ok := I.ok
  have fr : X.A.frames = some (X.env :: X.outer) := hs ▸ ok.frames
  have done : ∀ {Y : Cx} {q : List (Addr × Obj)} {D' : Ends} {fl : Flow} {t : Shared}, (∀ σ H, Inv Y q σ H t → Inv X pins σ H t) → SP Y q D' fl t → SP X pins D' fl t := fun {Y q D' fl t} h z => by
    cases fl
    · obtain ⟨_, _, J, z⟩ := z; exact ⟨_, _, h _ _ J, z⟩
    · obtain ⟨_, _, J, z⟩ := z; exact ⟨_, _, h _ _ J, z⟩
    · obtain ⟨_, _, J, z⟩ := z; exact ⟨_, _, h _ _ J, z⟩
    · obtain ⟨_, _, _, J, r, z⟩ := z; exact ⟨_, _, _, h _ _ J, r, z⟩
  apply wpAny_Try_except
  have caught : ∀ xe u t, XE (X.tr (X.pn ++ pins) xe) (wTr X.K c nm ts D) u t → wpAny (model X.prog X.w) X.A (noteFrame u X.env) (fun _ t2 => wpAny (model X.prog X.w) X.A (setFlight u none) (fun _ t3 =>
      wpAny (model X.prog X.w) X.A (handleBy u X.env [.ExceptHandler (some (.Name x np)) (nm.map (·.2)) (b0 :: su) hp]) (SP X pins D) X.xe t3) X.xe t2) X.xe t := by
    rintro xe u t ⟨a, B, sI, q, σ1, H1, cls, d, rfl, J, nb, up, sky, na, os, ag, hm, C, ec, hy⟩
    refine Sky.land Zc.steady fr hf (by rw [← hs]; exact sky) fun g1 f1 u1 => ?_
    have O := over_of (s := { t with heap := g1 }) ok hex hs hf rfl (.inr ⟨q, J⟩) nb (up.trans u1) f1 na os ag ec
    refine wpAny_handleBy_cons (codeAny_handlers_test ?_) fun z => nomatch z
    have named : ∀ {Q : Value → Shared → Prop} {E : Value → Shared → Prop}, Q c { t with heap := g1 } → wpAny (model X.prog X.w) (X.A.mark (some (.ref a))) (eval (.Name x np) X.env) Q E { t with heap := g1 } := fun z => by
      obtain ⟨k1, k2, k3 | ⟨k3, k4, k5⟩⟩ := hc
      · exact ld_glob (X := X.suite a _) O.track k1 k3 z k2
      · exact ld_blt (X := X.suite a _) O.track k1 k3 k4 z k5 k2
    refine named ((PySem.W.exm_one (M := model X.prog X.w) O.inv.kIn O.cls (by rw [← ec]; exact hm)).here ?_)
    have suite := fun {g2 : Heap} (f2 : HandSPX.FlyingZ B (X.env :: X.outer) a (Zc cls d) g2) (u2 : g1.UpToSlots g2) => over_of (s := { t with heap := g2 }) ok hex hs hf rfl (.inr ⟨q, J⟩) nb ((up.trans u1).trans u2) f2 na os ag ec
    rcases nm with _ | ⟨i, n⟩
    · refine codeAny_handlers_suite (HandSPX.lands_againZ f1 fun g2 f2 u2 => ?_)
      refine wpAny_mono ((hsu a _).run [] _ _ _ _ (suite f2 u2).track (hy a na)) (fun fl t2 z => ?_) fun _ _ z => z.elim
      have z' := done (fun _ _ J => Inv.untry J ok) z
      cases fl <;> exact z'
    · obtain ⟨n1, n2⟩ := hi _ rfl
      refine codeAny_handlers_suite_as (HandSPX.lands_againZ f1 fun g2 f2 u2 => ?_)
      refine store_ok (X := X.suite a _) (v := .ref a) (suite f2 u2).track hN n1 (.inl n2) rfl (fun t1 T1 => ?_) (.inr n2)
      refine wpAny_mono ((hsu a _).run [] t1 _ _ _ T1 (hy a na)) (fun fl t2 z => ?_) fun _ _ z => z.elim
      cases fl with
      | ret v => obtain ⟨_, _, _, T, r, z⟩ := z; exact gone_ok (Inv.untry T ok) hN n1 n2 fun _ T2 => ⟨_, _, _, T2, r, z⟩
      | next => obtain ⟨_, _, T, z⟩ := z; exact gone_ok (Inv.untry T ok) hN n1 n2 fun _ T2 => ⟨_, _, T2, z⟩
      | brk => obtain ⟨_, _, T, z⟩ := z; exact gone_ok (Inv.untry T ok) hN n1 n2 fun _ T2 => ⟨_, _, T2, z⟩
      | cont => obtain ⟨_, _, T, z⟩ := z; exact gone_ok (Inv.untry T ok) hN n1 n2 fun _ T2 => ⟨_, _, T2, z⟩
  refine wpAny_mono ((hb (wTr X.K c nm ts D) (X.pn ++ pins) _ (fun u t z => caught _ u t z) PassesOwn.looking).run [] s σ H D (I.toTry _) w) (fun fl t z => ?_) fun _ _ z => z
  have z' := done (fun _ _ J => J.ofTry ok) z
  cases fl with
  | next => exact wpAny_execs_nil z'
  | _ => exact z'
end
end MP
end MTry

section MRai
set_option Elab.async false
set_option linter.all false
set_option maxRecDepth 100000
set_option autoImplicit false
set_option maxHeartbeats 4000000
/-! MRai: an own class's __init__, and raise. -/
namespace MP
open PySem PySem.Spec PyProof.Rows L2
variable [Cla]
section
variable {X : Cx} {e : Expr} {es : List Expr} {ta : TA} {p1 p2 pos : Pos}
/-- the base's __init__, called by its class -/
theorem pe_tbinit (hg : Gl X "TableError") (B : BasOk X.K X.mg) (ha : PA X (e :: es) ta) (line : (p2.endLine == pos.line) = true)
    (few : ((backTo pos (starEach (e :: es) X.env)).all (fun x => !x.1) && (backToKw pos (keywordEach [] X.env)).all (fun x => x.1.isSome) && decide ((e :: es).length + ([] : List Keyword).length + (if ([] : List Keyword).isEmpty then 0 else 1) < 30)) = true)
    (st : starEach (e :: es) X.env = (false, eval e X.env) :: starEach es X.env) (ns : (backTo pos (starEach es X.env)).any (·.1) = false) :
    PE X (.Call (.Attribute (.Name "TableError" p1) "__init__" p2) (e :: es) [] pos) (tVeI X.K ta) := by
  constructor
  intro pins s σ H Q I w
  have form : methodCallForm ((e :: es).length + ([] : List Keyword).length) (backTo pos (starEach (e :: es) X.env)) (backToKw pos (keywordEach [] X.env)) = true := few
  have place : methodCallPos true (.Name "TableError" p1) X.env p2 pos = pure pos := by unfold methodCallPos; simp [line]
  have base : attributeBase (.Name "TableError" p1) "__init__" X.env (eval (.Name "TableError" p1) X.env) = eval (.Name "TableError" p1) X.env := by rfl
  rw [arm_eval_Call, base]
  refine wpAny_bind (ld_glob I hg B.gT (wpAny_bind (wpAny_standAt ?_)) (by decide))
  unfold methodCall
  rw [form]
  refine wpAny_bind (wpAny_holding (PySem.W.method_cls I.kIn B.sp (PySem.W.cls_value I.kIn B.rd B.fi (by decide +kernel) (wpAny_bind (wpAny_of_eq place ?_)))))
  refine PyProof.Rows.callWith_method1 (thn (ha.run pos pins _ σ H _ (I.tok _) w) ?_) st ns
  rintro us t ⟨vs, H1, J, r, a, C, ws, rfl, hl, T, ea, q⟩
  cases r with
  | cons r1 r2 =>
    cases r1
    exact oinit_ok T J ea (by rw [← Paired.length r2, sizeLine_eq]; omega) fun _ J2 => ⟨.non, H1, J2, rfl, q⟩
end
/-- what an own __init__ does with a new exception -/
def spIni (C : Addr) (fs : List Str) : Sp := fun vs H Q _ => ∃ (a : Addr) (ys : List V), vs = .ref a :: ys ∧ ys.length = fs.length ∧ H a = some (exo a C none) ∧
  ∀ H2 dx ks, H2 a = some (exo a C (some dx)) → H2 dx = some (exd dx ks) → H dx = none → dx ≠ a → (∀ b, b ≠ a → b ≠ dx → H2 b = H b) → (∀ f y, (fs.zip ys).lookup f = some y → ks.lookup f = some y) → Q .non H2
theorem spIni_len {C : Addr} {fs : List Str} : ∀ vs H Q E, spIni C fs vs H Q E → vs.length = (("self" : Str) :: fs).length := fun _ _ _ _ ⟨a, ys, e, l, _⟩ => by
  rw [e, List.length_cons, List.length_cons, l]
section
variable {P : Program} {w : World} {K : PySem.W.Frag} {mg : Str → Option Value} {base : Heap} {Cs : List Nat} {c : Nat}
theorem fldNms_of {c : Nat} : ∀ f ∈ clsFs c, f ∈ fldNms := by
  have h : ∀ c, c < 13 → ∀ f ∈ clsFs c, f ∈ fldNms := by decide +kernel
  intro f hf
  by_cases hc : c < 13
  · exact h c hc f hf
  · unfold clsFs at hf
    rw [List.getD_eq_getElem?_getD, List.getElem?_eq_none (show clsTab.length ≤ c from Nat.not_lt.mp hc)] at hf
    cases hf
theorem fn_init (k : ClsOk K mg Cs c) (B : BasOk K mg) (h0 : c ≠ 0) (hf : clsFs c ≠ []) : OexC K (Cla.a c) ∧ ∃ (fI : Addr) (fd : FuncData), PySem.W.findIn K (.ref (Cla.a c)) "__init__" = some (some (.ref fI)) ∧ PySem.W.typeIn K (.ref fI) = some (.type "function") ∧
    Binds K fd ("self" :: clsFs c) [] ∧ FnOk P w K mg base L2.CX0 1 fI fd ("self" :: clsFs c) (spIni (Cla.a c) (clsFs c)) := by
  obtain ⟨T, st, fI, fd, qn, i1, i2, F, ib, S, bi, gT⟩ := k.oex h0 hf
  refine ⟨T, fI, fd, i1, i2, bi, F.ok S spIni_len fun cdv A ou s H vs Q E hr ⟨a, ys, ev, hl, ea, q⟩ => ?_⟩
  subst ev
  have fl := fun f (hf : f ∈ clsFs c) => k.fl f (fldNms_of f hf)
  have vis : ∀ y ∈ (("self" : Str) :: clsFs c), Vis (defScope st) y := fun y hy => (S.par y hy).elim .inl fun z => .inr (.inl z)
  generalize hX : (cxOf L2.CX0 P w K mg base (("self" : Str) :: clsFs c) qn (defScope st) fI cdv A ou s H E).nox = X
  have xN : X.N = (("self" : Str) :: clsFs c) := by rw [← hX]; rfl
  have xS : X.env.scope = defScope st := by rw [← hX]; rfl
  have xK : X.K = K := by rw [← hX]; rfl
  have xg : X.mg = mg := by rw [← hX]; rfl
  have vr : ∀ {i : Nat} {y : Str} {q : Pos}, (("self" : Str) :: clsFs c)[i]? = some y → (y == ("__debug__" : Str)) = false → (y == ("__classdict__" : Str)) = false → PE X (.Name y q) (tVar i) := fun {i y q} h1 h2 h3 =>
    pe_var (by rw [xN]; exact h1) (by rw [xS]; exact vis y (List.mem_of_getElem? h1)) h2 h3
  have nice : ∀ f ∈ fldNms, (f == ("__debug__" : Str)) = false ∧ (f == ("__classdict__" : Str)) = false := by decide +kernel
  have gT' : Gl X "TableError" := by show X.env.scope.names.lookup ("TableError" : Str) = _; rw [xS]; exact gT
  have B' : BasOk X.K X.mg := by rw [xK, xg]; exact B
  have T' : OexC X.K (Cla.a c) := by rw [xK]; exact T
  have fl' : ∀ f ∈ clsFs c, PySem.W.findIn X.K (.ref (Cla.a c)) f = some none := by rw [xK]; exact fl
  have slf : ∀ {q : Pos}, PE X (.Name "self" q) (tVar 0) := fun {q} => vr rfl (by decide) (by decide)
  unfold initB at ib
  split at ib
  · rename_i q1 q2 q3 y q4 q5 q6 q7 f1 q8 g1 q9 q10 eb
    simp only [Bool.and_eq_true, decide_eq_true_eq] at ib
    obtain ⟨⟨⟨ln, e1⟩, rfl⟩, rfl⟩ := ib
    rw [eb]
    have n1 := nice y (fldNms_of y (by rw [e1]; exact List.mem_cons_self ..))
    have v1 : ∀ {q : Pos}, PE X (.Name y q) (tVar 1) := fun {q} => vr (by rw [e1]; rfl) n1.1 n1.2
    rw [e1] at hl q
    obtain ⟨y1, rfl⟩ : ∃ y1, ys = [y1] := by
      match ys, hl with
      | [y1], _ => exact ⟨y1, rfl⟩
    refine ⟨_, pss_cons (ps_expr (pe_tbinit gT' B' (pa_cons slf (pa_cons v1 pa_nil)) (by rw [ln]; exact beq_self_eq_true _) rfl rfl rfl)) (pss_one (ps_ost slf v1)), ?_⟩
    rw [xK] at T' fl'
    have fy := fl y (by rw [e1]; exact List.mem_cons_self ..)
    rw [xK, e1]
    refine ⟨.ref a, rfl, y1, rfl, a, Cla.a c, [y1], rfl, by show 1 ≤ 1000; omega, T, ea, ?_⟩
    refine ⟨y1, rfl, .ref a, rfl, a, Cla.a c, rfl, T, fy, .inl ⟨ea, fun dx nd ne => ?_⟩⟩
    refine q _ dx _ upd_same (by rw [upd_ne ne, upd_same]; rfl) nd ne (fun b h1 h2 => by rw [upd_ne h1, upd_ne h2]) fun f v h => h
  · rename_i q1 q2 q3 z q4 q5 q6 q7 q8 f1 q9 g1 q10 q11 eb
    simp only [Bool.and_eq_true, decide_eq_true_eq] at ib
    obtain ⟨⟨ln, e1⟩, rfl⟩ := ib
    rw [eb]
    have n1 := nice g1 (fldNms_of g1 (by rw [e1]; exact List.mem_cons_self ..))
    have v1 : ∀ {q : Pos}, PE X (.Name g1 q) (tVar 1) := fun {q} => vr (by rw [e1]; rfl) n1.1 n1.2
    rw [e1] at hl q
    obtain ⟨y1, rfl⟩ : ∃ y1, ys = [y1] := by
      match ys, hl with
      | [y1], _ => exact ⟨y1, rfl⟩
    refine ⟨_, pss_cons (ps_expr (pe_tbinit gT' B' (pa_cons slf (pa_cons pe_str pa_nil)) (by rw [ln]; exact beq_self_eq_true _) rfl rfl rfl)) (pss_one (ps_ost slf v1)), ?_⟩
    have fy := fl g1 (by rw [e1]; exact List.mem_cons_self ..)
    rw [xK, e1]
    refine ⟨.ref a, rfl, a, Cla.a c, _, rfl, by show 1 ≤ 1000; omega, T, ea, ?_⟩
    refine ⟨y1, rfl, .ref a, rfl, a, Cla.a c, rfl, T, fy, .inl ⟨ea, fun dx nd ne => ?_⟩⟩
    refine q _ dx _ upd_same (by rw [upd_ne ne, upd_same]; rfl) nd ne (fun b h1 h2 => by rw [upd_ne h1, upd_ne h2]) fun f v h => h
  · rename_i q1 q2 q3 y q4 q5 q6 q7 f1 q8 g1 q9 q10 q11 f2 q12 g2 q13 q14 eb
    simp only [Bool.and_eq_true, decide_eq_true_eq] at ib
    obtain ⟨⟨⟨⟨ln, e1⟩, rfl⟩, rfl⟩, rfl⟩ := ib
    rw [eb]
    have m1 : y ∈ clsFs c := by rw [e1]; exact List.mem_cons_self ..
    have m2 : g2 ∈ clsFs c := by rw [e1]; exact List.mem_cons_of_mem _ (List.mem_cons_self ..)
    have n1 := nice y (fldNms_of y m1)
    have n2 := nice g2 (fldNms_of g2 m2)
    have v1 : ∀ {q : Pos}, PE X (.Name y q) (tVar 1) := fun {q} => vr (by rw [e1]; rfl) n1.1 n1.2
    have v2 : ∀ {q : Pos}, PE X (.Name g2 q) (tVar 2) := fun {q} => vr (by rw [e1]; rfl) n2.1 n2.2
    have yg : y ≠ g2 := by
      have := S.nd
      rw [e1] at this
      simp only [List.nodup_cons, List.mem_cons, List.not_mem_nil, or_false, not_or] at this
      exact this.2.1
    rw [e1] at hl q
    obtain ⟨y1, y2, rfl⟩ : ∃ y1 y2, ys = [y1, y2] := by
      match ys, hl with
      | [y1, y2], _ => exact ⟨y1, y2, rfl⟩
    refine ⟨_, pss_cons (ps_expr (pe_tbinit gT' B' (pa_cons slf (pa_cons v1 pa_nil)) (by rw [ln]; exact beq_self_eq_true _) rfl rfl rfl)) (pss_cons (ps_ost slf v1) (pss_one (ps_ost slf v2))), ?_⟩
    have fy := fl y m1
    have fg := fl g2 m2
    rw [xK, e1]
    refine ⟨.ref a, rfl, y1, rfl, a, Cla.a c, [y1], rfl, by show 1 ≤ 1000; omega, T, ea, ?_⟩
    refine ⟨y1, rfl, .ref a, rfl, a, Cla.a c, rfl, T, fy, .inl ⟨ea, fun dx nd ne => ?_⟩⟩
    refine ⟨y2, rfl, .ref a, rfl, a, Cla.a c, rfl, T, fg, .inr ⟨dx, _, upd_same, by rw [upd_ne ne, upd_same], by show 1 ≤ 900; omega, ?_⟩⟩
    refine q _ dx _ (by rw [upd_ne (Ne.symm ne), upd_same]) upd_same nd ne (fun b h1 h2 => by rw [upd_ne h2, upd_ne h1, upd_ne h2]) fun f v h => ?_
    rw [List.zip_cons_cons, List.zip_cons_cons, lookup_put, lookup_put] at h
    rw [lookup_put, lookup_put]
    by_cases z1 : f = y
    · rw [if_pos z1] at h
      rw [if_neg (z1 ▸ yg), if_pos z1]
      exact h
    · rw [if_neg z1] at h
      by_cases z2 : f = g2
      · rw [if_pos z2] at h ⊢
        exact h
      · rw [if_neg z2] at h
        cases h
  · cases ib
end
end MP
end MRai

section MRs
set_option Elab.async false
set_option linter.all false
set_option maxRecDepth 100000
set_option autoImplicit false
set_option maxHeartbeats 4000000
/-! MRs: raise and try: what the evaluator says, the machine does. -/
namespace MP
open PySem PySem.Spec PyProof.Rows L2
variable [Cla]
theorem zip_look {I : Addr → Prop} {H : Hp} : ∀ {fs : List Str} {vs : List V} {xs : List PyData}, DvAll I H vs xs → ∀ {f : Str} {y : PyData}, (fs.zip xs).lookup f = some y → ∃ v, (fs.zip vs).lookup f = some v ∧ Dv I H v y
  | [], _, _, _, _, _, h => by rw [List.zip_nil_left] at h; cases h
  | _ :: _, _, _, .nil, _, _, h => by rw [List.zip_nil_right] at h; cases h
  | g :: fs, _, _, .cons (v := v) (d := d) x r, f, y, h => by
    rw [List.zip_cons_cons, List.lookup_cons] at h
    rw [List.zip_cons_cons]
    by_cases e : f = g
    · subst e
      rw [beq_self_eq_true] at h
      cases h
      exact ⟨v, by simp [List.lookup], x⟩
    · have ne : (f == g) = false := by simpa using e
      rw [ne] at h
      obtain ⟨u, h1, h2⟩ := zip_look r h
      exact ⟨u, by rw [List.lookup_cons, ne]; exact h1, h2⟩
section
variable {T : Tab} {CX : CXT} {E : XK} {C : Ctx} {k : Nat} {N : List Str} {X : Cx} {sc : Scope} {fq : Str → Bool}
theorem snd_raise {c : Nat} {es : Exs} {a' : Expr} {es' : List Expr} {p q r : Pos} (x : XOk T xrC CX (fun _ => E) C k X N sc fq) (hot : T.hot = false) (hc : c ∈ T.C) (h0 : c ≠ 0) (hg : gloB sc (clsNm c) = true) (hn : okName (clsNm c) = true) (he : chkEs T N sc fq es (a' :: es') = true) (hp : clsFs c = [] → es' = []) :
    PS X (.Raise (some (.Call (.Name (clsNm c) p) (a' :: es') [] q)) none r) (rS (fxOf xrC E) (evSt C (.raise c (clsFs c) es))) := by
  have ok := x.cls c hc
  have B := x.bas (fun z => by rw [z] at hc; cases hc)
  have hr := x.room hot
  have st := chkEs_star he
  have st2 := list_cons st
  have up : ∀ {σ : L2.St} {H : Hp} {D : Ends}, rS (fxOf xrC E) (evSt C (.raise c (clsFs c) es)) D σ H → rG (efOf xrC fun _ => E) RLst (evEs C es) σ H fun vs H1 => ∃ (W1 : Wd) (st1 : Store) (xs : List PyData), Gd W1 st1 H1 ∧ DvAll W1.im H1 vs xs ∧ (clsFs c = [] ∨ xs.length = (clsFs c).length ∧ (clsFs c).length ≤ 100) ∧
      ∀ W' H' d, Ext W1 H1 W' H' → Gd W' st1 H' → FldR W'.im H' d ((clsFs c).zip xs) → E (.ref (Cla.a c)) d H' := by
    rintro σ H D ⟨W0, H0, W, ρ, st, er, h⟩
    rw [evSt] at h
    refine ⟨W, ρ, st, er, (At.bind (R1 := RLst) h).mono ?_⟩
    rintro vs H1 ⟨xs, W1, st1, x1, r1, h1⟩
    obtain ⟨hl, h2⟩ := h1.guard
    refine ⟨W1, st1, xs, h2.2.1, r1, ?_, fun W' H' d xx g f => ?_⟩
    · rw [Bool.or_eq_true, List.isEmpty_iff, decide_eq_true_eq] at hl
      exact hl
    · have w : XAt (fxOf xrC E) W0 H0 ⟨c, (clsFs c).zip xs⟩ st1 := h2.2.2
      exact w W' H' (h2.1.trans xx) g (.ref (Cla.a c)) d ⟨ok.ok, rfl, f⟩
  by_cases hf : clsFs c = []
  · obtain rfl := hp hf
    cases es with
    | nil => unfold chkEs at he; cases he
    | cons e es =>
      unfold chkEs at he
      simp only [Bool.and_eq_true] at he
      cases es with
      | cons _ _ => have := he.2; unfold chkEs at this; cases this
      | nil =>
        refine (ps_raise (x.calm hot) x.tk (SkE.pmk_own1 PySem.F.excBase_ValueError (ok.pl h0 hf) ok.gC ok.kC (raises_own ok.exC ok.tyC) (x.gl' hg) (sndE e x he.1.2).1 (star_cons st2.1) (okName_of hn).1)).imp fun D σ H w => ?_
        have w := up w
        obtain ⟨W, ρ, st, er, h⟩ := w
        rw [evEs] at h
        refine ⟨W, ρ, st, er, (At.bind (R1 := DR) h).mono ?_⟩
        rintro v H1 ⟨d, W1, st1, x1, r1, h1⟩
        obtain ⟨u, W2, st2, dv, _, _, _, h2⟩ := h1.settle r1
        rw [evEs] at h2
        obtain ⟨W3, st3, xs, g3, r3, _, fin⟩ := h2.pureB.pure W2 H1 [v] h2.1 h2.2.1 (.cons dv .nil)
        exact fin W3 H1 none .refl g3 (.inl ⟨by rw [hf]; rfl, rfl⟩)
  · obtain ⟨T1, fI, fd, i1, i2, bi, F⟩ := fn_init (P := X.prog) (w := X.w) (base := X.base) ok B h0 hf
    refine (ps_raise (x.calm hot) x.tk (pmk_oex T1 i1 i2 F (hr.mono (by omega)) bi .nil pass0 (x.gl' hg) ok.gC (sndEs es x he).1 (okName_of hn).1 (star_cons st2.1) (stars_none st2.2))).imp fun D σ H w => ?_
    refine rG_mono (up w) fun vs H1 => ?_
    rintro ⟨W1, st1, xs, g1, r1, hl, fin⟩
    have hl := hl.resolve_left hf
    have hv : vs.length = (clsFs c).length := r1.length.trans hl.1
    refine ⟨by omega, fun a na => ?_⟩
    refine ⟨a, vs, by rw [List.append_nil], hv, upd_same, fun H2 dx ks e1 e2 nd ne keep lk => ?_⟩
    have nd1 : H1 dx = none := by rw [upd_ne ne] at nd; exact nd
    refine ⟨rfl, dx, ks, e1, e2, nd1, ?_⟩
    have eH : upd (del H2 a) dx (.xd ks) = upd H1 dx (.xd ks) := by
      funext b
      by_cases h1 : b = dx
      · rw [h1, upd_same, upd_same]
      · rw [upd_ne h1, upd_ne h1]
        by_cases h2 : b = a
        · rw [h2, del_same, na]
        · rw [del_ne h2, keep b h2 h1, upd_ne h2]
    rw [eH]
    refine fin (W1.addI dx) _ (some dx) ((Ext.lay nd1).own nd1) ((g1.lay nd1).own (Loose.lay g1 nd1)) (.inr ⟨dx, ks, rfl, .inl rfl, upd_same, fun f y l => ?_⟩)
    obtain ⟨v, l1, dv⟩ := zip_look r1 l
    exact ⟨v, lk f v l1, dv.mono (fun _ z => .inr z) fun b o i z => by rw [upd_ne (ne_of_none z nd1)]; exact z⟩
end
end MP
end MRs

section MSq
set_option Elab.async false
set_option linter.all false
set_option maxRecDepth 100000
set_option autoImplicit false
set_option maxHeartbeats 8000000
/-! MSq: the machine does at statements what the evaluator says: all of them; a def; a program. -/
namespace MP
open PySem PySem.Spec PyProof.Rows L2
variable [Cla]

section
variable {T : Tab} {CX : CXT} {E : XK} {C : Ctx} {k : Nat} {N : List Str}
theorem rS_eq' {Fx : FX} {m m' : Env → M Out} {D : Ends} {σ : L2.St} {H : Hp} (i : ∀ ρ Xp st P, wp Xp (m ρ) st P → wp Xp (m' ρ) st P) (h : rS Fx m D σ H) : rS Fx m' D σ H := by
  obtain ⟨W0, H0, W, ρ, st, er, x, g, w⟩ := h
  exact ⟨W0, H0, W, ρ, st, er, x, g, i _ _ _ _ w⟩
theorem aug_store {i : Expr} (h : noSlice i = true) (ov iv new : Value) : augStore i ov iv new = (do holding [new, ov, iv] (setItem ov iv new); release [new, ov, iv] []; pure .next) := by
  cases i <;> first | rfl | (cases h)
theorem asg_ok {X : Cx} {sc : Scope} {fq : Str → Bool} {EX : L2.St → XK} {t e : Expr} {p : Pos} {te : TE} {g : TG} (x : XOk T xrC CX EX C k X N sc fq) (s1 : noStar t = true) (h : (asgOk sc t e = true ∧ ∀ y py elt gs scope p', t = .Name y py → e = .ListComp elt gs scope p' → sc.names.lookup y = some .cell)) (he : PE X e te) (hg : PG X t g) : PS X (.Assign [t] e p) (tAsg te g) := by
  obtain ⟨h, hc⟩ := h
  have e1 : (assignEach [t] X.env).map (·.2) = [assign t X.env] := by rw [asg_cons s1] <;> rfl
  unfold asgOk at h
  split at h
  · rename_i y py elt gs scope p'
    have hcell := hc y py elt gs scope p' rfl rfl
    refine ps_asg he hg ?_ rfl e1
    have ky : X.env.kindOf y = some .cell := by show X.env.scope.names.lookup y = _; rw [x.scope]; exact hcell
    show (pure (X.env.blockKind == .function && X.env.kindOf y == some .local && py.line == p'.line && !(scope.names.any fun (n, k) => n == y && (k == .local || k == .cell))) : Sem Bool) = pure false
    rw [ky]
    have z : ((some NameKind.cell) == some NameKind.local) = false := by decide
    rw [z, Bool.and_false, Bool.false_and, Bool.false_and]
  · exact ps_asg he hg rfl (st_tup x.scope h) e1
  · exact ps_asg he hg rfl rfl e1
  · rename_i ht _
    simp only [Bool.and_eq_true] at h
    refine ps_asg he hg (noComp_sw h.1) (st_none ?_ h.2) e1
    rw [h.2]
    cases t <;> first | rfl | skip
    cases e <;> first | rfl | skip
    exact (ht _ _ _ _ _ _ rfl rfl).elim
theorem sndLc {X : Cx} {sc : Scope} {fq : Str → Bool} (x : XOk T xrC CX (fun _ => E) C k X N sc fq) (o : SOk X) {y : Str} {py p p' : Pos} {elt : Expr} {gs : List Comprehension} {scope : Scope} {ix : Nat} (h1 : N[ix]? = some y) (hy : sc.names.lookup y = some .local)
    (h4 : py.line = p'.line) (h5 : (scope.names.any fun nk => nk.1 == y && (nk.2 == .local || nk.2 == .cell)) = false) : ∀ (e : Ex), chkE T N sc fq e (.ListComp elt gs scope p') = true →
    PS X (.Assign [.Name y py] (.ListComp elt gs scope p') p) (tAsg (rG (fun _ => fxOf xrC E) DR (evE C e)) (gName ix))
  | .comp elt0 tg0 it0 ifs0 own0, h2 => by
    unfold chkE at h2
    rw [Bool.and_eq_true, Bool.not_eq_true'] at h2
    obtain ⟨h0, h2⟩ := h2
    split at h2
    · rename_i heq
      cases heq
      simp only [Bool.and_eq_true] at h2
      obtain ⟨⟨⟨⟨⟨⟨c1, c2⟩, c3⟩, c4⟩, c5⟩, c6⟩, c7⟩ := h2
      have hns : ∀ i ∈ tgNames tg0, i ∈ own0.map (·.2) := fun i hi => of_decide_eq_true (List.all_eq_true.mp c7 i hi)
      have hyl : X.env.scope.names.lookup y = some .local := by rw [x.scope]; exact hy
      exact (ps_setLc (i := ix) (x.calm h0) (by rw [x.names]; exact x.nd) (by rw [x.names]; exact h1) hyl (sw_true o.kind hyl (by rw [h4]; exact beq_self_eq_true _) h5) (sndIt it0 x c3) (blk_ok x c1)
        (fun s H c cl fp => sndTg tg0 (x.blk s H _ c cl fp) c4) (fun s H c cl fp => sndIf ifs0 (x.blk s H _ c cl fp) c5) (fun s H c cl fp => (sndE elt0 (x.blk s H _ c cl fp) c6).1) (noSet_fold c2)).imp fun D σ H w =>
        rG_lc (Ef := fun _ => fxOf xrC E) hns (rG_eq (fun ρ => by rw [evE] <;> rfl) w)
    · cases h2
  | .compT elt0 tg0 it0 ifs0 own0, h2 => by
    unfold chkE at h2
    rw [Bool.and_eq_true, Bool.not_eq_true'] at h2
    obtain ⟨h0, h2⟩ := h2
    split at h2
    · rename_i heq
      cases heq
      simp only [Bool.and_eq_true] at h2
      obtain ⟨⟨⟨⟨⟨⟨c1, c2⟩, c3⟩, c4⟩, c5⟩, c6⟩, c7⟩ := h2
      have hns : ∀ i ∈ tgNames tg0, i ∈ own0.map (·.2) := fun i hi => of_decide_eq_true (List.all_eq_true.mp c7 i hi)
      have hyl : X.env.scope.names.lookup y = some .local := by rw [x.scope]; exact hy
      exact (ps_setLc (i := ix) (x.calm h0) (by rw [x.names]; exact x.nd) (by rw [x.names]; exact h1) hyl (sw_true o.kind hyl (by rw [h4]; exact beq_self_eq_true _) h5) (sndIt it0 x c3) (blk_ok x c1)
        (fun s H c cl fp => sndTg tg0 (x.blk s H _ c cl fp) c4) (fun s H c cl fp => sndIf ifs0 (x.blk s H _ c cl fp) c5) (fun s H c cl fp => (sndE elt0 (x.blk s H _ c cl fp) c6).1) (noSet_fold c2)).imp fun D σ H w =>
        rG_lcT (Ef := fun _ => fxOf xrC E) hns (rG_eq (fun ρ => by rw [evE] <;> rfl) w)
    · cases h2
  | .compO elt0 tg0 e0 ifs0 own0, h2 => by
    unfold chkE at h2
    rw [Bool.and_eq_true, Bool.not_eq_true'] at h2
    obtain ⟨h0, h2⟩ := h2
    split at h2
    · rename_i heq
      cases heq
      simp only [Bool.and_eq_true] at h2
      obtain ⟨⟨⟨⟨⟨⟨c1, c2⟩, c3⟩, c4⟩, c5⟩, c6⟩, c7⟩ := h2
      have hns : ∀ i ∈ tgNames tg0, i ∈ own0.map (·.2) := fun i hi => of_decide_eq_true (List.all_eq_true.mp c7 i hi)
      have hyl : X.env.scope.names.lookup y = some .local := by rw [x.scope]; exact hy
      exact (ps_setLc (i := ix) (x.calm h0) (by rw [x.names]; exact x.nd) (by rw [x.names]; exact h1) hyl (sw_true o.kind hyl (by rw [h4]; exact beq_self_eq_true _) h5) ((pi_seq (sndE e0 x c3).1).imp fun σ H R w => rI_tree w) (blk_ok x c1)
        (fun s H c cl fp => sndTg tg0 (x.blk s H _ c cl fp) c4) (fun s H c cl fp => sndIf ifs0 (x.blk s H _ c cl fp) c5) (fun s H c cl fp => (sndE elt0 (x.blk s H _ c cl fp) c6).1) (noSet_fold c2)).imp fun D σ H w =>
        rG_lcO (Ef := fun _ => fxOf xrC E) (mi := fun ρ => evE C e0 ρ >>= kidsOf) hns (rG_eq (fun ρ => by rw [evE] <;> rfl) w)
    · cases h2
  | .cell e, h2 => by
    unfold chkE at h2
    exact (sndLc x o h1 hy h4 h5 e h2).imp fun D σ H w => rG_cell (rG_eq (fun ρ => by rw [evE]) w)
  | .var _, h2 => by unfold chkE at h2; cases h2
  | .con _, h2 => by unfold chkE at h2; cases h2
  | .glob _ _, h2 => by unfold chkE at h2; cases h2
  | .bin _ _ _, h2 => by unfold chkE at h2; cases h2
  | .neg _, h2 => by unfold chkE at h2; cases h2
  | .cmp _ _ _, h2 => by unfold chkE at h2; cases h2
  | .chain _ _ _ _ _, h2 => by unfold chkE at h2; cases h2
  | .isin _ _ _, h2 => by unfold chkE at h2; cases h2
  | .isinD _ _ _, h2 => by unfold chkE at h2; cases h2
  | .and _ _, h2 => by unfold chkE at h2; cases h2
  | .or _ _, h2 => by unfold chkE at h2; cases h2
  | .not _, h2 => by unfold chkE at h2; cases h2
  | .ife _ _ _, h2 => by unfold chkE at h2; cases h2
  | .tup _, h2 => by unfold chkE at h2; cases h2
  | .lst _, h2 => by unfold chkE at h2; cases h2
  | .emp _, h2 => by unfold chkE at h2; cases h2
  | .idx _ _, h2 => by unfold chkE at h2; cases h2
  | .idxD _ _, h2 => by unfold chkE at h2; cases h2
  | .idxT _ _, h2 => by unfold chkE at h2; cases h2
  | .slc _ _ _, h2 => by unfold chkE at h2; cases h2
  | .bi _ _, h2 => by unfold chkE at h2; rw [Bool.and_eq_true] at h2; cases h2.2
  | .lrng _, h2 => by unfold chkE at h2; rw [Bool.and_eq_true] at h2; cases h2.2
  | .isi _ ts par, h2 => by unfold chkE at h2; split at h2 <;> first | (rename_i q; cases q; done) | (cases h2; done)
  | .call _ _, h2 => by unfold chkE at h2; rw [Bool.and_eq_true] at h2; cases h2.2
  | .app _ _, h2 => by unfold chkE at h2; cases h2
  | .pop _, h2 => by unfold chkE at h2; cases h2
  | .popAt _ _, h2 => by unfold chkE at h2; cases h2
  | .index _ _, h2 => by unfold chkE at h2; cases h2
  | .dct _, h2 => by unfold chkE at h2; cases h2
  | .dget _ _ _, h2 => by unfold chkE at h2; cases h2
  | .upd _ _, h2 => by unfold chkE at h2; cases h2
  | .ext _ _, h2 => by unfold chkE at h2; cases h2
  | .rev _, h2 => by unfold chkE at h2; cases h2
  | .count _ _, h2 => by unfold chkE at h2; cases h2
  | .insert _ _ _, h2 => by unfold chkE at h2; cases h2
  | .dctT _ _, h2 => by unfold chkE at h2; cases h2
  | .dksT _ _, h2 => by unfold chkE at h2; cases h2
  | .exF _ _, h2 => by unfold chkE at h2; cases h2
  | .exV _, h2 => by unfold chkE at h2; cases h2
  | .exN _ _, h2 => by unfold chkE at h2; cases h2
  | .exI _ cs, h2 => by unfold chkE at h2; split at h2 <;> first | (rename_i q; cases q; done) | (cases h2; done)
  | .rgv _ _ _, h2 => by unfold chkE at h2; rw [Bool.and_eq_true] at h2; cases h2.2
  | .dks _ _, h2 => by unfold chkE at h2; rw [Bool.and_eq_true] at h2; cases h2.2
  | .dof _, h2 => by unfold chkE at h2; rw [Bool.and_eq_true] at h2; cases h2.2
  | .dofT _, h2 => by unfold chkE at h2; rw [Bool.and_eq_true] at h2; cases h2.2
  | .sset _, h2 => by unfold chkE at h2; rw [Bool.and_eq_true] at h2; cases h2.2
  | .bad, h2 => ⟨fun pins s σ H D I w => by
      have nil : ∀ ρ, evE C .bad ρ = fail := fun ρ => by rw [evE]
      obtain ⟨W, ρ, st, er, _, _, w⟩ := w
      rw [nil] at w
      exact w.elim⟩
/-- a suite where an exception is handled -/
theorem sndHot : ∀ (ss : Sts) {X : Cx} {sc : Scope} {fq : Str → Bool} {ss' : List Stmt}, XOk T xrC CX (fun _ => E) C k X N sc fq → chkHot T N sc fq ss ss' = true → PSs X ss' (rS (fxOf xrC E) (evSts C ss))
  | .nil, X, sc, fq, [], x, h => pss_nil.imp fun D σ H w => by
      obtain ⟨W0, H0, W, ρ, st, er, h⟩ := w
      rw [evSts] at h
      exact h.next er
  | .cons (.asg (.name j) e) r, X, sc, fq, s' :: r', x, h => by
    unfold chkHot at h
    rw [Bool.and_eq_true] at h
    obtain ⟨h, hr⟩ := h
    split at h
    · rename_i y py e' p
      simp only [Bool.and_eq_true] at h
      obtain ⟨⟨⟨h1, h2⟩, h3⟩, h4⟩ := h
      have ps : PS X (.Assign [.Name y py] e' p) (rS (fxOf xrC E) (evSt C (.asg (.name j) e))) := (asg_ok x rfl ⟨h3, fun y py elt gs scope p' e1 e2 => by subst e2; cases h4⟩ (sndE e x h2).1 (sndTg (.name j) x h1)).imp fun D σ H w => rS_asg (rS_eq (fun ρ => by rw [evSt]) w)
      exact (pss_cons ps (sndHot r x hr)).imp fun D σ H w => rS_seq (rS_eq (fun ρ => by rw [evSts] <;> rfl) w)
    · cases h
  | .cons (.ret e) r, X, sc, fq, s' :: r', x, h => by
    unfold chkHot at h
    rw [Bool.and_eq_true] at h
    obtain ⟨h, hr⟩ := h
    split at h
    · rename_i e' p
      have ps : PS X (.Return (some e') p) (rS (fxOf xrC E) (evSt C (.ret e))) := (ps_ret (sndE e x h).1).imp fun D σ H w => rS_ret (rS_eq (fun ρ => by rw [evSt]) w)
      exact (pss_cons ps (sndHot r x hr)).imp fun D σ H w => rS_seq (rS_eq (fun ρ => by rw [evSts] <;> rfl) w)
    · cases h
  | .cons (.ife c a b) r, X, sc, fq, s' :: r', x, h => by
    unfold chkHot at h
    rw [Bool.and_eq_true] at h
    obtain ⟨h, hr⟩ := h
    split at h
    · rename_i c' a' b' p
      simp only [Bool.and_eq_true] at h
      obtain ⟨⟨⟨h1, h2⟩, h3⟩, h4⟩ := h
      have ps : PS X (.If c' a' b' p) (rS (fxOf xrC E) (evSt C (.ife c a b))) := (ps_if ((sndE c x h2).2 h1) (sndHot a x h3) (sndHot b x h4)).imp fun D σ H w => rS_if (rS_eq' (fun ρ Xp st P w => by rw [evSt] at w; simp only [wp_bind] at w ⊢; exact wp_mono w fun _ _ w => wp_mono w fun k _ w => by cases k <;> exact w) w)
      exact (pss_cons ps (sndHot r x hr)).imp fun D σ H w => rS_seq (rS_eq (fun ρ => by rw [evSts] <;> rfl) w)
    · cases h
  | .nil, X, sc, fq, _ :: _, x, h => by unfold chkHot at h; cases h
  | .frz _ _, X, sc, fq, _, x, h => by unfold chkHot at h; cases h
  | .cons _ _, X, sc, fq, [], x, h => by unfold chkHot at h; cases h
  | .cons (.asg (.tup _) _) _, X, sc, fq, _ :: _, x, h => by unfold chkHot at h; cases h
  | .cons (.asg (.sub _ _) _) _, X, sc, fq, _ :: _, x, h => by unfold chkHot at h; cases h
  | .cons (.asg (.subD _ _) _) _, X, sc, fq, _ :: _, x, h => by unfold chkHot at h; cases h
  | .cons (.par _ _ _) _, X, sc, fq, _ :: _, x, h => by unfold chkHot at h; cases h
  | .cons (.par3 _ _ _ _) _, X, sc, fq, _ :: _, x, h => by unfold chkHot at h; cases h
  | .cons (.aug _ _ _ _) _, X, sc, fq, _ :: _, x, h => by unfold chkHot at h; cases h
  | .cons (.expr _) _, X, sc, fq, _ :: _, x, h => by unfold chkHot at h; cases h
  | .cons (.for_ _ _ _) _, X, sc, fq, _ :: _, x, h => by unfold chkHot at h; cases h
  | .cons (.forE _ _ _) _, X, sc, fq, _ :: _, x, h => by unfold chkHot at h; cases h
  | .cons (.forT _ _ _) _, X, sc, fq, _ :: _, x, h => by unfold chkHot at h; cases h
  | .cons (.while_ _ _) _, X, sc, fq, _ :: _, x, h => by unfold chkHot at h; cases h
  | .cons (.brk) _, X, sc, fq, _ :: _, x, h => by unfold chkHot at h; cases h
  | .cons (.cnt) _, X, sc, fq, _ :: _, x, h => by unfold chkHot at h; cases h
  | .cons (.pass) _, X, sc, fq, _ :: _, x, h => by unfold chkHot at h; cases h
  | .cons (.raise _ _ _) _, X, sc, fq, _ :: _, x, h => by unfold chkHot at h; cases h
  | .cons (.tryA _ _ _ _ _) _, X, sc, fq, _ :: _, x, h => by unfold chkHot at h; cases h
  | .cons (.bad) _, X, sc, fq, _ :: _, x, h => by unfold chkHot at h; cases h
/-- what is asked of the body's value and of its exception -/
theorem try_body {Xp : Exc → Store → Prop} {t : Option Nat} {e : Ex} {c : Nat} {i : Option Nat} {suite : Sts} {ρ : Env} {st : Store} {P : Out → Store → Prop} (w : wp Xp (evSt C (.tryA t e c i suite) ρ) st P) :
    wp (fun x st' => subC x.cls c = true ∧ wp (fun _ _ => False) (evSts C suite (bindO i (.ref st'.length) ρ)) (st' ++ [.exc x]) fun o s => P (unO i o) s) (evE C e ρ) st fun d st' => P (.next (bindO t (keep d) ρ)) st' := by
  unfold wp at w
  rw [evSt] at w
  dsimp only at w
  unfold wp
  cases q : evE C e ρ st with
  | ok d s =>
    rw [q] at w
    exact w
  | no =>
    rw [q] at w
    exact w
  | exc x s =>
    rw [q] at w
    dsimp only at w ⊢
    cases z : subC x.cls c with
    | false =>
      rw [z] at w
      exact w.elim
    | true =>
      rw [z, if_pos rfl] at w
      refine ⟨rfl, ?_⟩
      have w2 : wp Xp (unE i (evSts C suite (bindO i (.ref s.length) ρ))) (s ++ [.exc x]) P := w
      unfold unE at w2
      rw [wp_bind, wp_noX] at w2
      exact w2
theorem snd_try {t : Option Nat} {e : Ex} {c : Nat} {i : Option Nat} {suite : Sts} {X : Cx} {sc : Scope} {fq : Str → Bool} {b' b0 : Stmt} {su : List Stmt} {np hp pos : Pos} {nm' : Option Str} (x : XOk T xrC CX (fun _ => E) C k X N sc fq) (o : SOk X) (hot : T.hot = false) (hc : c ∈ T.C) (hg : gloB sc (clsNm c) = true) (hn : okName (clsNm c) = true)
    (hb : match t, b' with
        | some j, .Assign [.Name y px] e' p => chkTg T N sc fq (.name j) (.Name y px) = true ∧ chkE T N sc fq e e' = true ∧ asgOk sc (.Name y px) e' = true ∧ noComp e' = true
        | none, .Expr e' _ => noComp e' = true ∧ chkE T N sc fq e e' = true
        | _, _ => False)
    (hi : match i, nm' with
        | none, none => True
        | some j, some y => N[j]? = some y ∧ sc.names.lookup y = some .local
        | _, _ => False)
    (hs : chkHot ⟨T.P, T.G, T.C, true⟩ N sc fq suite (b0 :: su) = true) :
    PS X (.Try [b'] [.ExceptHandler (some (.Name (clsNm c) np)) nm' (b0 :: su) hp] [] [] pos) (rS (fxOf xrC E) (evSt C (.tryA t e c i suite))) := by
  have ok := x.cls c hc
  have nms : Names X (clsNm c) (.ref (Cla.a c)) := ⟨x.gl' hg, (okName_of hn).1, .inl ok.gC⟩
  obtain ⟨nm, rfl, hnm, hni⟩ : ∃ nm : ExNm, nm' = nm.map (·.2) ∧ (∀ p ∈ nm, X.N[p.1]? = some p.2 ∧ X.env.kindOf p.2 = some .local) ∧ i = nm.map (·.1) := by
    cases i with
    | none =>
      cases nm' with
      | none => exact ⟨none, rfl, (fun p z => by cases z), rfl⟩
      | some _ => exact hi.elim
    | some j =>
      cases nm' with
      | none => exact hi.elim
      | some y =>
        refine ⟨some (j, y), rfl, fun p z => ?_, rfl⟩
        cases z
        exact ⟨by rw [x.names]; exact hi.1, by show X.env.scope.names.lookup y = _; rw [x.scope]; exact hi.2⟩
  have hot' : ∀ (a : Addr) (pn : List (Addr × Obj)), XOk ⟨T.P, T.G, T.C, true⟩ xrC CX (fun _ => E0) C k (X.suite a pn) N sc fq := fun a pn =>
    ⟨x.names, x.nd, x.scope, x.fn, (fun z => by cases z), (fun z => by cases z), x.un, x.cx, fun u s' ⟨_, _, _, _, _, _, _, _, _, _, _, _, _, _, _, _, w⟩ => w.elim, x.cls, x.bas, x.clo, x.gd, fun _ _ _ _ _ _ _ z => (x.nx _ _ _ _ _ z).elim, x.nx, x.fns, x.bl, x.gl⟩
  have body : ∀ (W : WX) (pn : List (Addr × Obj)) (xe : Value → Shared → Prop), Takes (X.tr pn xe) W → XOk T xrC CX (fun σ c d H => W c d σ H) C k (X.tr pn xe) N sc fq := fun W pn xe tk =>
    ⟨x.names, x.nd, x.scope, x.fn, x.calm, x.room, x.un, x.cx, tk, x.cls, x.bas, x.clo, x.gd, fun σ => by rw [x.cx]; exact passAt tk σ, x.nx, x.fns, x.bl, x.gl⟩
  have air : ∀ {σ : L2.St} {H : Hp} {D : Ends}, rS (fxOf xrC E) (evSt C (.tryA t e c i suite)) D σ H → rS (efOf xrC (fun σ c' d H => wTr X.K (.ref (Cla.a c)) nm (rS (fxOf xrC E0) (evSts C suite)) D c' d σ H) σ) (fun ρ => evE C e ρ >>= fun d => pure (.next (bindO t (keep d) ρ))) D σ H := by
    rintro σ H D ⟨W0, H0, W, ρ, st, er, xx, g, w⟩
    refine ⟨W, H, W, ρ, st, er, .refl, g, ?_⟩
    have w2 := try_body w
    rw [wp_bind]
    refine wp_mono2 w2 (fun d st' q W' H' b x' g' r => ?_) fun y st' q W' H' x' g' c' dd hx => ?_
    · cases b with
      | next σ' => exact q W' H' (.next σ') (xx.trans x') g' r
      | cnt _ => exact r.elim
      | brk _ => exact r.elim
      | ret _ => exact r.elim
    · obtain ⟨z, q⟩ := q
      obtain ⟨k1, rfl, fd⟩ := hx
      have oky := x.cls y.cls (x.clo _ k1)
      refine ⟨by rw [oky.exm ok hc, z], _, rfl, fun a na => ?_⟩
      have lo : Loose W' (upd H' a (exb a (Cla.a y.cls) dd)) a := Loose.lay g' na
      have keep' : ∀ b u, W'.im b → H' b = some u → upd H' a (exb a (Cla.a y.cls) dd) b = some u := fun b u _ z => by rw [upd_ne (ne_of_none z na)]; exact z
      have g2 := (g'.lay (o := exb a (Cla.a y.cls) dd) na).cell lo (c := .exc y) ⟨lo.2.1, k1, dd, upd_same, fd.mono (fun _ z => z) keep'⟩
      have x2 : Ext W H (W'.addE a) (upd H' a (exb a (Cla.a y.cls) dd)) := Ext.cell (x'.trans (Ext.lay na)) (x'.fresh na)
      have at_ : (W'.addE a).eta[st'.length]? = some a := by
        show (W'.eta ++ [a])[st'.length]? = some a
        rw [List.getElem?_append_right (by rw [g'.len]; omega), g'.len, Nat.sub_self]
        rfl
      refine ⟨W0, H0, W'.addE a, _, _, ?_, xx.trans x2, g2, wp_mono2 q (fun o s p W3 H3 b x3 g3 r3 => ?_) fun _ _ z => z.elim⟩
      · subst hni
        cases nm with
        | none => exact er.mono x2
        | some p => exact (er.mono x2).set (d := .ref st'.length) ⟨a, at_, rfl⟩ p.1
      · subst hni
        cases nm with
        | none => exact p W3 H3 b x3 g3 r3
        | some p' =>
          cases b with
          | next σ' =>
            cases o with
            | next ρ' => exact p W3 H3 (.next (σ'.set p'.1 none)) x3 g3 (EnvR.unset r3 p'.1)
            | _ => exact r3.elim
          | cnt σ' =>
            cases o with
            | cnt ρ' => exact p W3 H3 (.cnt (σ'.set p'.1 none)) x3 g3 (EnvR.unset r3 p'.1)
            | _ => exact r3.elim
          | brk σ' =>
            cases o with
            | brk ρ' => exact p W3 H3 (.brk (σ'.set p'.1 none)) x3 g3 (EnvR.unset r3 p'.1)
            | _ => exact r3.elim
          | ret v =>
            cases o with
            | ret d => exact p W3 H3 (.ret v) x3 g3 r3
            | _ => exact r3.elim
  have su' : ∀ a pn, PSs (X.suite a pn) (b0 :: su) (rS (fxOf xrC E0) (evSts C suite)) := fun a pn => sndHot suite (hot' a pn) hs
  cases t with
  | some j =>
    cases b' with
    | Assign ts e' p =>
      match ts, hb with
      | [.Name y px], hb =>
        obtain ⟨h1, h2, h3, h4⟩ := hb
        refine (ps_tryT (c := .ref (Cla.a c)) nm o.stk o.frm o.ex (by rw [x.names]; exact x.nd) hnm nms (tb := fun W => tAsg (rG (efOf xrC fun σ c d H => W c d σ H) DR (evE C e)) (rT (evTg C (.name j)) [j])) (fun W pn xe tk own => ?_) su').imp fun D σ H w => ?_
        · exact pss_one (asg_ok (body W pn xe tk) rfl ⟨h3, fun y py elt gs scope p' e1 e2 => by subst e2; cases h4⟩ (sndE e (body W pn xe tk) h2).1 (by have := sndTg (.name j) (body W pn xe tk) h1; rw [tgNames] at this; exact this))
        · exact rS_asg (ns := [j]) (rS_eq (fun ρ => congrArg (evE C e ρ >>= ·) (funext fun x => by rw [evTg]; rfl)) (air w))
    | _ => exact hb.elim
  | none =>
    cases b' with
    | Expr e' p =>
      obtain ⟨h1, h2⟩ := hb
      refine (ps_tryT (c := .ref (Cla.a c)) nm o.stk o.frm o.ex (by rw [x.names]; exact x.nd) hnm nms (tb := fun W => tDrop (rG (efOf xrC fun σ c d H => W c d σ H) DR (evE C e))) (fun W pn xe tk own => pss_one (ps_expr (sndE e (body W pn xe tk) h2).1 (noComp_sw h1))) su').imp fun D σ H w => ?_
      exact rS_expr (air w)
    | _ => exact hb.elim
mutual
theorem sndSt : ∀ (s : St) {X : Cx} {sc : Scope} {fq : Str → Bool} {s' : Stmt}, XOk T xrC CX (fun _ => E) C k X N sc fq → SOk X → chkSt T N sc fq s s' = true → PS X s' (rS (fxOf xrC E) (evSt C s))
  | .asg t e, X, sc, fq, s', x, o, h => by
    unfold chkSt at h
    split at h
    · rename_i t' e' p
      simp only [Bool.and_eq_true] at h
      obtain ⟨⟨⟨h1, h2⟩, h3⟩, h4⟩ := h
      by_cases hl : ∃ y py elt gs scope p', t' = .Name y py ∧ e' = .ListComp elt gs scope p' ∧ sc.names.lookup y = some .local
      · obtain ⟨y, py, elt, gs, scope, p', rfl, rfl, hy⟩ := hl
        unfold asgOk at h4
        simp only [hy, Bool.and_eq_true, decide_eq_true_eq, Bool.not_eq_true'] at h4
        cases t with
        | name ix =>
          unfold chkTg at h1
          simp only [Bool.and_eq_true, decide_eq_true_eq] at h1
          exact (sndLc x o h1.1 hy h4.1 h4.2 e h2).imp fun D σ H w => by
            have w2 := rS_asg (ns := [ix]) (rS_eq (fun ρ => by rw [evSt]) w)
            exact rG_mono w2 fun v H1 q => tg_name (rT_eq (fun d ρ => by rw [evTg]) rfl q)
        | tup _ => unfold chkTg at h1; rw [Bool.and_eq_true] at h1; cases h1.2
        | sub _ _ => unfold chkTg at h1; cases h1
        | subD _ _ => unfold chkTg at h1; cases h1
      · refine (asg_ok x h3 ⟨h4, fun y py elt gs scope p' e1 e2 => ?_⟩ (sndE e x h2).1 (sndTg t x h1)).imp fun D σ H w => rS_asg (rS_eq (fun ρ => by rw [evSt]) w)
        subst e1 e2
        unfold asgOk at h4
        simp only at h4
        split at h4
        · rename_i hy
          exact (hl ⟨y, py, elt, gs, scope, p', rfl, rfl, hy⟩).elim
        · assumption
        · cases h4
    · cases h
  | .par i j es, X, sc, fq, s', x, o, h => by
    unfold chkSt at h
    rw [Bool.and_eq_true, Bool.not_eq_true'] at h
    obtain ⟨h0, h⟩ := h
    split at h
    · rename_i xn px yn py kt pt a' b' k2 pt2 p
      simp only [Bool.and_eq_true, decide_eq_true_eq, Bool.not_eq_true'] at h
      obtain ⟨⟨⟨⟨⟨⟨⟨⟨⟨⟨⟨h1, h2⟩, h3⟩, h4⟩, h5⟩, h6⟩, h7⟩, h8⟩, h9⟩, h10⟩, h11⟩, h12⟩ := h
      have hx : X.env.scope.names.lookup xn = some .local := by
        rw [x.scope]
        split at h4
        · assumption
        · cases h4
      have hy : X.env.scope.names.lookup yn = some .local := by
        rw [x.scope]
        split at h5
        · assumption
        · cases h5
      exact (ps_par (x.calm h0) (by rw [x.names]; exact x.nd) (by rw [x.names]; exact h1) (by rw [x.names]; exact h2) h3 hx hy (sndEs es x h12).2 (st_par o.kind hx hy h6 h7 h8 h9 h10 h11)).imp fun D σ H w => rS_par (rS_eq (fun ρ => by rw [evSt] <;> rfl) w)
    · cases h
  | .par3 i j l es, X, sc, fq, s', x, o, h => by
    unfold chkSt at h
    rw [Bool.and_eq_true, Bool.not_eq_true'] at h
    obtain ⟨h0, h⟩ := h
    split at h
    · rename_i xn px yn py zn pz kt pt a' b' c' k2 pt2 p
      simp only [Bool.and_eq_true, decide_eq_true_eq, Bool.not_eq_true'] at h
      obtain ⟨⟨⟨⟨⟨⟨⟨⟨⟨⟨⟨⟨⟨⟨h1, h2⟩, h3⟩, h4⟩, h5⟩, h6⟩, h7⟩, h8⟩, h9⟩, h10⟩, h11⟩, h12⟩, h13⟩, h14⟩, h15⟩ := h
      have hx : X.env.scope.names.lookup xn = some .local := by
        rw [x.scope]
        split at h5
        · assumption
        · cases h5
      have hy : X.env.scope.names.lookup yn = some .local := by
        rw [x.scope]
        split at h6
        · assumption
        · cases h6
      have hz : X.env.scope.names.lookup zn = some .local := by
        rw [x.scope]
        split at h7
        · assumption
        · cases h7
      exact (ps_par3 (x.calm h0) (by rw [x.names]; exact x.nd) (by rw [x.names]; exact h1) (by rw [x.names]; exact h2) (by rw [x.names]; exact h3) h4.1 h4.2.1 h4.2.2 hx hy hz (sndEs es x h15).2 (st_par3 o.kind hx hy hz h8 h9 h10 h11 h12 h13 h14)).imp fun D σ H w => rS_par3 (rS_eq (fun ρ => by rw [evSt] <;> rfl) w)
    · cases h
  | .aug a b op e, X, sc, fq, s', x, o, h => by
    unfold chkSt at h
    split at h
    · simp only [Bool.and_eq_true, decide_eq_true_eq] at h
      obtain ⟨⟨⟨⟨⟨h1, h0⟩, h2⟩, h3⟩, h4⟩, h5⟩ := h
      subst h2
      have hop : op = .add ∨ op = .sub := by cases op <;> first | exact .inl rfl | exact .inr rfl | (cases h0; done)
      rcases hop with rfl | rfl
      · exact (ps_augS (sndE a x h3).1 (sndE b x h4).1 get_L (sndE e x h5).1 ip_add set_list (aug_store h1)).imp fun D σ H w => rS_aug (K := X.K) (op := .add) (.inl rfl) (rS_eq (fun ρ => by rw [evSt]; rfl) w)
      · exact (ps_augS (sndE a x h3).1 (sndE b x h4).1 get_L (sndE e x h5).1 ip_sub set_list (aug_store h1)).imp fun D σ H w => rS_aug (K := X.K) (op := .sub) (.inr rfl) (rS_eq (fun ρ => by rw [evSt]; rfl) w)
    · cases h
  | .expr e, X, sc, fq, s', x, o, h => by
    unfold chkSt at h
    split at h
    · simp only [Bool.and_eq_true] at h
      exact (ps_expr (sndE e x h.2).1 (noComp_sw h.1)).imp fun D σ H w => rS_expr (rS_eq (fun ρ => by rw [evSt]) w)
    · cases h
  | .ret e, X, sc, fq, s', x, o, h => by
    unfold chkSt at h
    split at h
    · exact (ps_ret (sndE e x h).1).imp fun D σ H w => rS_ret (rS_eq (fun ρ => by rw [evSt]) w)
    · cases h
  | .ife c a b, X, sc, fq, s', x, o, h => by
    unfold chkSt at h
    split at h
    · simp only [Bool.and_eq_true] at h
      obtain ⟨⟨⟨h1, h2⟩, h3⟩, h4⟩ := h
      exact (ps_if ((sndE c x h2).2 h1) (sndSts a x o h3) (sndSts b x o h4)).imp fun D σ H w => rS_if (rS_eq' (fun ρ Xp st P w => by rw [evSt] at w; simp only [wp_bind] at w ⊢; exact wp_mono w fun _ _ w => wp_mono w fun k _ w => by cases k <;> exact w) w)
    · cases h
  | .for_ t it body, X, sc, fq, s', x, o, h => by
    unfold chkSt at h
    rw [Bool.and_eq_true, Bool.not_eq_true'] at h
    obtain ⟨h0, h⟩ := h
    split at h
    · simp only [Bool.and_eq_true] at h
      obtain ⟨⟨⟨h1, h2⟩, h3⟩, h4⟩ := h
      exact (ps_for o.own (x.calm h0) (sndIt it x h2) (sndTg t x h3) (sndSts body x o h4) (noSet_fold h1)).imp fun D σ H w => rS_for (rS_eq (fun ρ => by rw [evSt]) w)
    · cases h
  | .forE t e body, X, sc, fq, s', x, o, h => by
    unfold chkSt at h
    rw [Bool.and_eq_true, Bool.not_eq_true'] at h
    obtain ⟨h0, h⟩ := h
    split at h
    · simp only [Bool.and_eq_true] at h
      obtain ⟨⟨⟨⟨h1, h2⟩, h3⟩, h4⟩, h5⟩ := h
      obtain ⟨p, rfl, hg⟩ := nameIs_of h1
      exact (ps_for o.own (x.calm h0) (pi_enumA (x.gl' hg) (x.none' (by decide)) (pa_cons (sndE e x h3).1 pa_nil (star_cons h2)) (star_cons h2)) (sndTg t x h4) (sndSts body x o h5) (noSet_fold rfl)).imp fun D σ H w => rS_forE (rS_eq (fun ρ => by rw [evSt]) w)
    · cases h
  | .forT t e body, X, sc, fq, s', x, o, h => by
    unfold chkSt at h
    rw [Bool.and_eq_true, Bool.not_eq_true'] at h
    obtain ⟨h0, h⟩ := h
    split at h
    · simp only [Bool.and_eq_true] at h
      obtain ⟨⟨⟨h1, h2⟩, h3⟩, h4⟩ := h
      exact (ps_for o.own (x.calm h0) ((pi_seq (sndE e x h2).1).imp fun σ H R w => rI_tree w) (sndTg t x h3) (sndSts body x o h4) (noSet_fold h1)).imp fun D σ H w => rS_forT (mi := fun ρ => evE C e ρ >>= kidsOf) (rS_eq (fun ρ => by rw [evSt] <;> rfl) w)
    · cases h
  | .while_ c body, X, sc, fq, s', x, o, h => by
    unfold chkSt at h
    split at h
    · simp only [Bool.and_eq_true] at h
      obtain ⟨⟨h1, h2⟩, h3⟩ := h
      exact (ps_while o.own ((sndE c x h2).2 h1) (sndSts body x o h3)).imp fun D σ H w => rS_while (n := C.fuel) (rS_eq (fun ρ => by rw [evSt]) w)
    · cases h
  | .brk, X, sc, fq, s', x, o, h => by
    unfold chkSt at h
    split at h
    · exact ps_break.imp fun D σ H w => by
        obtain ⟨W0, H0, W, ρ, st, er, h⟩ := w
        rw [evSt] at h
        exact h.pure W H (.brk σ) h.1 h.2.1 er
    · cases h
  | .cnt, X, sc, fq, s', x, o, h => by
    unfold chkSt at h
    split at h
    · exact ps_continue.imp fun D σ H w => by
        obtain ⟨W0, H0, W, ρ, st, er, h⟩ := w
        rw [evSt] at h
        exact h.pure W H (.cnt σ) h.1 h.2.1 er
    · cases h
  | .pass, X, sc, fq, s', x, o, h => by
    unfold chkSt at h
    split at h
    · exact ps_pass.imp fun D σ H w => by
        obtain ⟨W0, H0, W, ρ, st, er, h⟩ := w
        rw [evSt] at h
        exact h.next er
    · cases h
  | .raise c fs es, X, sc, fq, s', x, o, h => by
    unfold chkSt at h
    split at h
    · rename_i n p a' es' q r
      simp only [Bool.and_eq_true, decide_eq_true_eq, Bool.not_eq_true'] at h
      obtain ⟨⟨⟨⟨⟨⟨⟨⟨h0, h1⟩, rfl⟩, h3⟩, h4⟩, h5⟩, rfl⟩, h7⟩, h8⟩ := h
      refine snd_raise x h0 (List.contains_iff_mem.mp h1) h7 h4 h3 h5 fun z => ?_
      rw [z] at h8
      exact of_decide_eq_true h8
    · cases h
  | .tryA t e c i suite, X, sc, fq, s', x, o, h => by
    unfold chkSt at h
    split at h
    · rename_i b' n np i' b0 su hp pos
      simp only [Bool.and_eq_true, decide_eq_true_eq, Bool.not_eq_true'] at h
      obtain ⟨⟨⟨⟨⟨⟨⟨h0, h1⟩, rfl⟩, h3⟩, h4⟩, h5⟩, h6⟩, h7⟩ := h
      refine snd_try x o h0 (List.contains_iff_mem.mp h1) h4 h3 ?_ ?_ h7
      · revert h5
        split
        · intro h5
          simp only [Bool.and_eq_true] at h5
          exact ⟨h5.1.1.1, h5.1.1.2, h5.1.2, h5.2⟩
        · intro h5
          simp only [Bool.and_eq_true] at h5
          exact h5
        · intro h5
          cases h5
      · revert h6
        split
        · exact fun _ => trivial
        · intro h6
          simp only [Bool.and_eq_true, decide_eq_true_eq] at h6
          obtain ⟨h6, h8⟩ := h6
          refine ⟨h6, ?_⟩
          split at h8
          · assumption
          · cases h8
        · intro h6
          cases h6
    · cases h
  | .bad, X, sc, fq, s', x, o, h => ⟨fun pins s σ H D I w => by
      obtain ⟨W0, H0, W, ρ, st, er, w⟩ := w
      rw [evSt] at w
      exact w.fail.elim⟩
theorem sndSts : ∀ (ss : Sts) {X : Cx} {sc : Scope} {fq : Str → Bool} {ss' : List Stmt}, XOk T xrC CX (fun _ => E) C k X N sc fq → SOk X → chkSts T N sc fq ss ss' = true → PSs X ss' (rS (fxOf xrC E) (evSts C ss))
  | .nil, X, sc, fq, [], x, o, h => pss_nil.imp fun D σ H w => by
      obtain ⟨W0, H0, W, ρ, st, er, h⟩ := w
      rw [evSts] at h
      exact h.next er
  | .nil, X, sc, fq, _ :: _, x, o, h => by unfold chkSts at h; cases h
  | .cons _ _, X, sc, fq, [], x, o, h => by unfold chkSts at h; cases h
  | .cons s r, X, sc, fq, s' :: r', x, o, h => by
    unfold chkSts at h
    simp only [Bool.and_eq_true] at h
    exact (pss_cons (sndSt s x o h.1) (sndSts r x o h.2)).imp fun D σ H w => rS_seq (rS_eq (fun ρ => by rw [evSts] <;> rfl) w)
  | .frz i r, X, sc, fq, ss', x, o, h => by
    unfold chkSts at h
    exact (sndSts r x o h).imp fun D σ H w => rS_frz (rS_eq (fun ρ => by rw [evSts]) w)
end
end
end MP
end MSq

section MDef
set_option Elab.async false
set_option linter.all false
set_option maxRecDepth 100000
set_option autoImplicit false
set_option maxHeartbeats 8000000
/-! MDef: a def, a program. -/
namespace MP
open PySem PySem.Spec PyProof.Rows L2
variable [Cla]

/-! ### how arguments bind -/
theorem zip_some : ∀ {ps : List Str} {us : List Value}, us.length = ps.length → ∀ n ∈ ps, ((ps.zip us).lookup n).isSome = true
  | [], _, _, n, h => by cases h
  | p :: ps, [], hl, n, h => by cases hl
  | p :: ps, u :: us, hl, n, h => by
    rw [List.zip_cons_cons, List.lookup_cons]
    by_cases e : n = p
    · rw [e]; simp
    · have e' : (n == p) = false := by rw [beq_eq_false_iff_ne]; exact e
      rw [e']
      exact zip_some (by simpa using hl) n ((List.mem_cons.mp h).resolve_left e)
theorem zip_filt : ∀ {ps : List Str} {us : List Value}, ps.Nodup → us.length = ps.length → (ps.filterMap fun n => ((ps.zip us).lookup n).map (n, ·)) = ps.zip us
  | [], [], _, _ => rfl
  | [], _ :: _, _, hl => by cases hl
  | p :: ps, [], _, hl => by cases hl
  | p :: ps, u :: us, nd, hl => by
    have nd' := List.nodup_cons.mp nd
    rw [List.zip_cons_cons, List.filterMap_cons]
    have e1 : (List.lookup p ((p, u) :: ps.zip us)) = some u := by rw [List.lookup_cons]; simp
    rw [e1]
    simp only [Option.map_some]
    congr 1
    have key : ∀ {l : List Str}, (∀ n ∈ l, n ≠ p) → (l.filterMap fun n => (List.lookup n ((p, u) :: ps.zip us)).map (n, ·)) = l.filterMap fun n => ((ps.zip us).lookup n).map (n, ·) := fun {l} hq => by
      induction l with
      | nil => rfl
      | cons n l ih =>
        have e' : (n == p) = false := by rw [beq_eq_false_iff_ne]; exact hq n (List.mem_cons_self ..)
        rw [List.filterMap_cons, List.filterMap_cons, ih fun m hm => hq m (List.mem_cons_of_mem _ hm), List.lookup_cons, e']
    rw [key fun n hn z => nd'.1 (z ▸ hn)]
    exact zip_filt nd'.2 (by simpa using hl)
theorem bind_plain {fd : FuncData} {us : List Value} (h1 : fd.params.posonlyargs = []) (h2 : fd.params.kwonlyargs = []) (h3 : fd.params.vararg = none) (h4 : fd.params.kwarg = none) (hd : fd.defaults = .none) (nd : (fd.params.args.map (·.arg)).Nodup) (hl : us.length = (fd.params.args.map (·.arg)).length) :
    bindArgs fd ⟨us, []⟩ = pure ((fd.params.args.map (·.arg)).zip us) := by
  unfold bindArgs
  simp only [h1, h2, h3, h4, hd, List.map_nil, List.nil_append, List.append_nil]
  have hz := zip_some hl
  have hf := zip_filt nd hl
  generalize fd.params.args.map (·.arg) = ps at *
  have e0 : seqItems? Value.none = pure none := rfl
  rw [e0]
  have e1 : (decide (us.length > ps.length) && (none : Option Arg).isNone) = false := by simp [hl]
  have e2 : (ps.filter fun n => ((ps.zip us).lookup n).isNone) = [] := by
    rw [List.filter_eq_nil_iff]
    intro n hn
    have := hz n hn
    cases q : (ps.zip us).lookup n with
    | none => rw [q] at this; cases this
    | some _ => simp
  simp [e1, e2, hf]
  intro hb
  omega

/-! ### the callee's own cells are gone -/
theorem leave_lo {i n : Nat} {st : Store} (h : i < n) : leave n (.ref i) st = .ok (.ref i) (st.take n) := by
  exact congrFun (if_pos h : (if i < n then _ else _ : M D) = _) st
theorem leave_hi {i n : Nat} {st : Store} (h : ¬ i < n) : leave n (.ref i) st = (match st[i]? with
    | some (.lst xs) => .ok (.newL xs) (st.take n)
    | some (.dct t kvs) => .ok (.newD t kvs) (st.take n)
    | _ => .no) := by
  exact congrFun (if_neg h : (if i < n then _ else _ : M D) = _) st
def cutW (W : Wd) (n : Nat) : Wd := ⟨W.eta.take n, W.im⟩
section
variable {W W' : Wd} {H H' : Hp} {st' : Store} {n : Nat}
theorem Ext.cutW (x : Ext W H W' H') (hn : W.eta.length = n) : Ext W H (cutW W' n) H' := by
  obtain ⟨t, e⟩ := x.pre
  have e2 : W'.eta.take n = W.eta := by rw [e, ← hn, List.take_left]
  exact ⟨⟨[], by show W'.eta.take n = _; rw [e2, List.append_nil]⟩, x.im, x.frm, x.newI, fun a h => .inl (by rw [← e2]; exact h), x.dom⟩
theorem Gd.cutW (g : Gd W' st' H') : Gd (cutW W' n) (st'.take n) H' where
  len := by show (W'.eta.take n).length = _; rw [List.length_take, List.length_take, g.len]
  nd := (List.take_sublist n W'.eta).nodup g.nd
  cells := fun i c a e1 e2 => by
    have e2 : (W'.eta.take n)[i]? = some a := e2
    rw [List.getElem?_take] at e1 e2
    split at e1
    · rename_i hi
      rw [if_pos hi] at e2
      have := g.cells i c a e1 e2
      cases c with
      | lst xs => exact this
      | dct t kvs => exact this
      | dead => trivial
      | exc x => exact this
    · cases e1
  imm := g.imm
  tr := fun a h => g.tr a ((List.take_sublist n W'.eta).subset h)
theorem leave_ok {Xp : Exc → Store → Prop} {d : D} {v : V} {P : D → Store → Prop} {Q : V → Hp → Prop} (w : wp Xp (leave n d) st' P) (x : Ext W H W' H') (g : Gd W' st' H') (hn : W.eta.length = n) (r : DR H W' H' v d)
    (i : ∀ d2 st2, P d2 st2 → ∀ W2 H2 v, Ext W H W2 H2 → Gd W2 st2 H2 → DR H W2 H2 v d2 → Q v H2) : Q v H' := by
  have loose : ∀ p, Loose W' H' p → Loose (cutW W' n) H' p := fun p l => ⟨l.1, l.2.1, fun z => l.2.2 ((List.take_sublist n W'.eta).subset z)⟩
  cases d with
  | dat d => exact i _ _ w _ _ _ (x.cutW hn) g.cutW (show Dv W'.im H' v d from r)
  | newL xs =>
    obtain ⟨p, vs, e, h, l, m, q⟩ := r
    exact i _ _ w _ _ _ (x.cutW hn) g.cutW ⟨p, vs, e, h, loose p l, m, q⟩
  | tree ts => exact w.elim
  | newD t kvs =>
    obtain ⟨p, e, l, m, q⟩ := r
    exact i _ _ w _ _ _ (x.cutW hn) g.cutW ⟨p, e, loose p l, m, q⟩
  | ref j =>
    obtain ⟨a, ha, rfl⟩ := r
    by_cases hj : j < n
    · have w' : P (.ref j) (st'.take n) := by
        unfold MP.wp at w
        rw [leave_lo hj] at w
        exact w
      exact i _ _ w' _ _ _ (x.cutW hn) g.cutW ⟨a, by show (W'.eta.take n)[j]? = _; rw [List.getElem?_take, if_pos hj]; exact ha, rfl⟩
    · unfold MP.wp at w
      rw [leave_hi hj] at w
      obtain ⟨t, et⟩ := x.pre
      have e2 : W'.eta.take n = W.eta := by rw [et, ← hn, List.take_left]
      have na : a ∉ W'.eta.take n := fun z => by
        obtain ⟨l, hl⟩ := List.mem_iff_getElem?.mp z
        rw [List.getElem?_take] at hl
        split at hl
        · rename_i hln
          have := (List.getElem?_inj (List.getElem?_eq_some_iff.mp hl).1 g.nd).mp (hl.trans ha.symm)
          omega
        · cases hl
      have fresh : H a = none := by
        rcases x.newE a (List.mem_of_getElem? ha) with z | z
        · exact (na (by rw [e2]; exact z)).elim
        · exact z
      cases hst : st'[j]? with
      | none => simp only [hst] at w
      | some c =>
        have ck := g.cells j c a hst ha
        cases c with
        | lst xs =>
          simp only [hst] at w
          obtain ⟨ni, vs, hv, q⟩ := ck
          exact i _ _ w _ _ _ (x.cutW hn) g.cutW ⟨a, vs, rfl, hv, ⟨by rw [hv]; simp, ni, na⟩, fresh, q⟩
        | dct t kvs =>
          simp only [hst] at w
          obtain ⟨ni, q⟩ := ck
          exact i _ _ w _ _ _ (x.cutW hn) g.cutW ⟨a, rfl, ⟨g.tr a (List.mem_of_getElem? ha), ni, na⟩, fresh, q⟩
        | dead => simp only [hst] at w
        | exc x => simp only [hst] at w
end

/-! ### a def -/
def scB (N P : List Str) (sc : Scope) : Bool := (match sc.kind with
    | .function => true
    | _ => false) && !sc.isCoroutine && !sc.isGenerator && decide N.Nodup && decide (N.take P.length = P) && P.all (fun x => match sc.names.lookup x with
    | some .local => true
    | some .cell => true
    | _ => false) && sc.names.all (fun y => match y.2 with
    | .free => false
    | _ => true)
theorem scB_of {N P : List Str} {sc : Scope} (h : scB N P sc = true) : FnScope N P sc := by
  unfold scB at h
  simp only [Bool.and_eq_true, Bool.not_eq_true', decide_eq_true_eq, List.all_eq_true] at h
  obtain ⟨⟨⟨⟨⟨⟨h1, h2⟩, h3⟩, h4⟩, h5⟩, h6⟩, h7⟩ := h
  refine ⟨?_, h2, h3, h4, h5, fun x hx => ?_, fun y hy z => ?_⟩
  · split at h1
    · assumption
    · cases h1
  · have := h6 x hx
    split at this
    · exact .inl (by assumption)
    · exact .inr (by assumption)
    · cases this
  · have := h7 y hy
    rw [z] at this
    cases this
def argB (ps : List Str) (a : Arguments) : Bool := a.posonlyargs.isEmpty && a.kwonlyargs.isEmpty && a.vararg.isNone && a.kwarg.isNone && decide (a.args.map (·.arg) = ps)
theorem argB_of {K : PySem.W.Frag} {x qual : Str} {st : Stmt} {f : Addr} {fd : FuncData} {ps : List Str} (F : Fun K x qual st f fd) (h : argB ps (defArgs st) = true) (nd : ps.Nodup) : Binds K fd ps [] := by
  unfold argB at h
  simp only [Bool.and_eq_true, decide_eq_true_eq] at h
  obtain ⟨⟨⟨⟨h1, h2⟩, h3⟩, h4⟩, h5⟩ := h
  refine F.binds fun kV doc pm an cdv ct us hl => ?_
  subst h5
  exact bind_plain (List.isEmpty_iff.mp h1) (List.isEmpty_iff.mp h2) (Option.isNone_iff_eq_none.mp h3) (Option.isNone_iff_eq_none.mp h4) rfl nd hl
/-- a def stands for a def -/
def chkDef (T : Tab) (d : Def) (st : Stmt) : Bool := scB d.names d.ps (defScope st) && argB d.ps (defArgs st) && chkSts T d.names (defScope st) (fun _ => true) d.body (defBody st)
/-- what the top has left of a text's defs and names -/
structure POk (T : Tab) (K : PySem.W.Frag) (mg : Str → Option Value) : Prop where
  fns : ∀ (f : Nat) (d : Def), T.P[f]? = some d → ∃ st fa fd, Fun K d.name d.name st fa fd ∧ chkDef T d st = true ∧ mg d.name = some (.ref fa)
  bl : ∀ x ∈ builtinNames, mg x = none
  gl : ∀ p ∈ T.G, ∃ v u, mg p.1 = some u ∧ RelV v u ∧ Dv (fun _ => False) (fun _ => none) v p.2
  cls : ∀ c ∈ T.C, ClsOk K mg T.C c
  bas : T.C ≠ [] → BasOk K mg
  clo : ∀ c, Cla.ok c = true → c ∈ T.C
  hot : T.hot = false
theorem nodup_take {α : Type} {N P : List α} {n : Nat} (h : N.Nodup) (e : N.take n = P) : P.Nodup := by
  rw [← e]
  exact (List.take_sublist n N).nodup h
theorem EnvR.start {W : Wd} {H : Hp} {N : List Str} {vs : List V} {args : List D} (r : Paired (DE W H) vs args) : EnvR W H (args.map some ++ List.replicate (N.length - args.length) none) (L2.start N vs) := by
  have hl := r.length
  unfold L2.start
  refine ⟨by simp [hl], fun i d e => ?_⟩
  by_cases hi : i < args.length
  · rw [List.getElem?_append_left (by simpa using hi)] at e
    rw [List.getElem?_append_left (by simpa [hl] using hi)]
    rw [List.getElem?_map] at e ⊢
    cases q : args[i]? with
    | none => rw [q] at e; cases e
    | some d' =>
      rw [q] at e
      cases e
      have key : ∀ {vs : List V} {ds : List D} {i : Nat}, Paired (DE W H) vs ds → ds[i]? = some d → ∃ v, vs[i]? = some v ∧ DE W H v d := fun {vs ds i} r => by
        induction r generalizing i with
        | nil => intro e; simp at e
        | cons a b ih =>
          intro e
          cases i with
          | zero => simp at e; subst e; exact ⟨_, rfl, a⟩
          | succ i => simpa using ih (by simpa using e)
      obtain ⟨v, hv, dv⟩ := key r q
      exact ⟨v, by rw [hv]; rfl, dv⟩
  · rw [List.getElem?_append_right (by simpa using hi)] at e
    rw [List.getElem?_replicate] at e
    split at e <;> cases e
/-! ### a program -/
theorem cx_none (P : Program) (w : World) : ∀ o H s e s', L2.CX P w o H s E0 e s' → False := fun _ _ _ _ _ ⟨_, _, _, _, _, _, _, _, _, _, _, _, z⟩ => z
theorem wp_cutX {Xp : Exc → Store → Prop} {n : Nat} {m : M D} {st : Store} {P : D → Store → Prop} (w : MP.wp Xp (cutX n m) st P) : MP.wp (fun x s => Xp x (s.take n)) m st P := by
  unfold MP.wp cutX at w
  unfold MP.wp
  cases e : m st with
  | ok a s => rw [e] at w; exact w
  | exc x s => rw [e] at w; exact w
  | no => rw [e] at w; exact w
theorem wp_runDef {Xp : Exc → Store → Prop} {C : Ctx} {d : Def} {args : List D} {st : Store} {P : D → Store → Prop} (w : MP.wp Xp (runDef C d args) st P) : args.length = d.ps.length ∧ MP.wp (fun x s => Xp x (s.take st.length)) (do
      let o ← evSts C d.body (args.map some ++ List.replicate (d.names.length - args.length) none)
      match o with
      | .ret x => leave st.length x
      | .next _ => leave st.length (.dat .none)
      | _ => fail) st P := by
  by_cases e : args.length = d.ps.length
  · refine ⟨e, wp_cutX ?_⟩
    unfold MP.wp runDef at w
    rw [if_pos e] at w
    exact w
  · unfold MP.wp runDef at w
    rw [if_neg e] at w
    exact w.elim
theorem snd_prog {T : Tab} {P : Program} {w : World} {K : PySem.W.Frag} {mg : Str → Option Value} (pk : POk T K mg) (fuel : Nat) : ∀ (k f : Nat) (d : Def), T.P[f]? = some d → ∃ fa fd, mg d.name = some (.ref fa) ∧ PySem.W.keepIn K (.ref fa) = true ∧ Binds K fd d.ps [] ∧
    (∀ vs H Q E, spOf xrC ⟨callF T.P fuel k, fuel⟩ f vs H Q E → vs.length = d.ps.length) ∧ ∀ base, FnG P w K mg base (L2.CX P w) (k + 2) fa fd d.ps (spOf xrC ⟨callF T.P fuel k, fuel⟩ f) := by
  intro k
  induction k with
  | zero =>
    intro f d hf
    obtain ⟨st, fa, fd, F, hc, hm⟩ := pk.fns f d hf
    unfold chkDef at hc
    simp only [Bool.and_eq_true] at hc
    have S := scB_of hc.1.1
    have no : ∀ vs H Q E, ¬ spOf xrC ⟨callF T.P fuel 0, fuel⟩ f vs H Q E := fun vs H Q E ⟨W, s, args, g, r, q⟩ => q
    exact ⟨fa, fd, hm, F.kp, argB_of F hc.1.2 (nodup_take S.nd S.pre), fun vs H Q E h => (no _ _ _ _ h).elim, fun base => ⟨fun vs H Q E h => (no _ _ _ _ h).elim, fun A ou s H ar us vs Q E _ _ _ _ _ h => (no _ _ _ _ h).elim⟩⟩
  | succ k ih =>
    intro f d hf
    obtain ⟨st, fa, fd, F, hc, hm⟩ := pk.fns f d hf
    unfold chkDef at hc
    simp only [Bool.and_eq_true] at hc
    have S := scB_of hc.1.1
    have run : ∀ args, callF T.P fuel (k + 1) f args = runDef ⟨callF T.P fuel k, fuel⟩ d args := fun args => by rw [callF, hf]
    have len : ∀ vs H Q E, spOf xrC ⟨callF T.P fuel (k + 1), fuel⟩ f vs H Q E → vs.length = d.ps.length := fun vs H Q E ⟨W, s, args, g, r, q⟩ => by
      replace q : MP.wp _ (callF T.P fuel (k + 1) f args) s _ := q
      rw [run] at q
      rw [r.length]
      exact (wp_runDef q).1
    refine ⟨fa, fd, hm, F.kp, argB_of F hc.1.2 (nodup_take S.nd S.pre), len, fun base => fnG_of F S len fun cdv A ou s H vs Q E hr gs h => ?_⟩
    obtain ⟨W, sto, args, g, r, q⟩ := id h
    have hx : (cxOf (L2.CX P w) P w K mg base d.names d.name (defScope st) fa cdv A ou s H E).xe = fun e s' => wpAny (model (cxOf (L2.CX P w) P w K mg base d.names d.name (defScope st) fa cdv A ou s H E).prog (cxOf (L2.CX P w) P w K mg base d.names d.name (defScope st) fa cdv A ou s H E).w) (cxOf (L2.CX P w) P w K mg base d.names d.name (defScope st) fa cdv A ou s H E).A (leaving (cxOf (L2.CX P w) P w K mg base d.names d.name (defScope st) fa cdv A ou s H E).env e) (fun _ s'' => L2.CX P w ou H s E e s'') (fun e' s'' => L2.CX P w ou H s E e' s'') s' := rfl
    have x : XOk T xrC (L2.CX P w) (fun _ => E) ⟨callF T.P fuel k, fuel⟩ k (cxOf (L2.CX P w) P w K mg base d.names d.name (defScope st) fa cdv A ou s H E) d.names (defScope st) (fun _ => true) :=
      { names := rfl, nd := S.nd, scope := rfl, fn := rfl, calm := fun _ => rfl, room := fun _ => hr, un := hr.units, cx := rfl, tk := takes_of rfl rfl rfl rfl, cls := pk.cls, bas := pk.bas, clo := pk.clo, gd := gs
        px := fun σ => passAt (X := cxOf (L2.CX P w) P w K mg base d.names d.name (defScope st) fa cdv A ou s H E) (W := fun cls dd _ H' => E cls dd H') (takes_of rfl rfl rfl rfl) σ
        nx := cx_none P w
        fns := fun f' d' hf' => (ih f' d' hf').imp fun _ q => q.imp fun _ ⟨q1, q2, q3, q4, q5⟩ => ⟨q1, q2, q3, q4, q5 base⟩
        bl := pk.bl
        gl := pk.gl }
    have o : SOk (cxOf (L2.CX P w) P w K mg base d.names d.name (defScope st) fa cdv A ou s H E) := ⟨S.kind, passes_of hx, rfl, rfl, rfl⟩
    refine ⟨_, sndSts d.body x o hc.2, W, H, W, _, sto, EnvR.start r, .refl, g, ?_⟩
    replace q : MP.wp _ (callF T.P fuel (k + 1) f args) sto _ := q
    rw [run] at q
    obtain ⟨e, q2⟩ := wp_runDef q
    rw [wp_bind] at q2
    have hn : W.eta.length = sto.length := g.len
    refine wp_mono2 q2 (fun oc s1 w1 W' H' b xx gg rr => ?_) (fun ex s1 w1 W' H' xx gg => w1 (cutW W' sto.length) H' (xx.cutW hn) gg.cutW)
    cases b <;> cases oc <;> first
      | exact rr.elim
      | exact w1.elim
      | exact leave_ok w1 xx gg hn rr fun d2 st2 p W2 H2 v x2 g2 r2 => p W2 H2 v x2 g2 r2
      | exact leave_ok (v := .non) (d := .dat .none) (H := H) w1 xx gg hn (show DR H W' H' .non (.dat .none) from .non) fun d2 st2 p W2 H2 v x2 g2 r2 => p W2 H2 v x2 g2 r2
end MP
end MDef

section MEnd
set_option Elab.async false
set_option linter.all false
set_option maxRecDepth 100000
set_option autoImplicit false
set_option maxHeartbeats 8000000
/-! MEnd: a law's end. -/
namespace MP
open PySem PySem.Spec PyProof.Rows L2
variable [Cla]

abbrev NoX : Exc → Store → Prop := fun _ _ => False
def noLists (K : PySem.W.Frag) : Bool := K.all fun p => match p.2.cls with
  | .type "list" => false
  | _ => true
theorem noLists_of {K : PySem.W.Frag} (h : noLists K = true) : ∀ a o, K.lookup a = some o → o.cls ≠ .type "list" := fun a o e z => by
  have key : ∀ (K : PySem.W.Frag), K.lookup a = some o → (a, o) ∈ K := fun K => by
    induction K with
    | nil => intro e; cases e
    | cons p r ih =>
      intro e
      obtain ⟨b, q⟩ := p
      rw [List.lookup_cons] at e
      split at e
      · rename_i hb
        cases e
        rw [beq_iff_eq.mp hb]
        exact List.mem_cons_self ..
      · exact List.mem_cons_of_mem _ (ih e)
  have := List.all_eq_true.mp h _ (key K e)
  simp only [z] at this
  cases this
/-- a def's statement at a place of the top -/
def stAt (P : Program) (i : Nat) : Stmt := P.main.body.getD i (.Pass ⟨0, 0, 0, 0⟩)
/-- the law's own def comes to True (a structure, so that nothing unfolds the run) -/
structure LawOk (P : List Def) (fuel k f : Nat) : Prop where
  run : ∀ ns : List Int, ns.length ≤ 63 → wp NoX (callF P fuel k f [.dat (.list (ns.map .int))]) [] fun d _ => d = .dat (.bool true)
theorem law_asks {T : Tab} {fuel k f : Nat} (h : LawOk T.P fuel k f)
    (H : Hp) (a : Addr) (ob : Obj) (ns : List Int) (hn : ns.length ≤ 63) (hl : H a = some (.frz ob (.lst (ns.map V.int)))) : spOf xrC ⟨callF T.P fuel k, fuel⟩ f [.ref a] H (fun v _ => v = .bl true) L2.E0 := by
  refine ⟨⟨[], fun b => b = a⟩, [], [.dat (.list (ns.map .int))], ?_, .cons (show Dv (fun b => b = a) H (.ref a) (.list (ns.map .int)) from .lst rfl (.inr ⟨ob, hl⟩) (DvAll.of_ints ns)) .nil, ?_⟩
  · refine ⟨rfl, List.nodup_nil, fun i c b e => by simp at e, fun b e => ?_, fun b e => by cases e⟩
    have e : b = a := e
    subst e
    rw [hl]
    simp
  · refine wp_mono2 (h.run ns hn) (fun d s e W' H' v x g r => ?_) fun _ _ z => z.elim
    subst e
    cases (show Dv W'.im H' v (.bool true) from r)
    rfl
/-- what the head asks, from what the top has left -/
theorem law_F {T : Tab} {P : Program} {w : World} {K : PySem.W.Frag} {mg : Str → Option Value} {fuel k f : Nat} {d : Def} (pk : POk T K mg) (hf : T.P[f]? = some d) {fa : Addr} (hm : mg d.name = some (.ref fa)) :
    ∃ fd : FuncData, Binds K fd d.ps [] ∧ ∀ base : Heap, K.In base → base.Ns mainGlobals mg → FnG P w K mg base (L2.CX P w) (k + 2) fa fd d.ps (spOf xrC ⟨callF T.P fuel k, fuel⟩ f) := by
  obtain ⟨fa2, fd2, m1, m2, m3, m4, m5⟩ := snd_prog (P := P) (w := w) pk fuel k f d hf
  rw [hm] at m1
  cases m1
  exact ⟨fd2, m3, fun base _ _ => m5 base⟩
theorem def_at {K : PySem.W.Frag} {h : Heap} {mg : Str → Option Value} {st : Stmt} {x : Str} (X : K.In h) (G : h.Ns mainGlobals mg) {f : Addr} {oc : Value} {od an : Option Addr} {sl : Array (Option Value)} {kV doc pm cdv ct : Value}
    (a : PySem.W.nsIn K mainGlobals x = some (some (.ref f))) (l : K.lookup f = some ⟨oc, od, .func (PySem.W.fnOf x x (defArgs st) (defBody st) (defScope st) .none kV doc pm an cdv ct), sl⟩) (c : PySem.W.codeIn K cdv x = true) (k : PySem.W.keepIn K (.ref f) = true) :
    ∃ fa fd, Fun K x x st fa fd ∧ mg x = some (.ref fa) := ⟨f, _, fun_mk l c k, PySem.W.mg_of X G a⟩
def DefsOk (T : Tab) (prog : Program) (K : PySem.W.Frag) (mg : Str → Option Value) : List Def → List Nat → Prop
  | [], _ => True
  | _ :: _, [] => False
  | d :: ds, i :: is => (∃ fa fd, Fun K d.name d.name (stAt prog i) fa fd ∧ mg d.name = some (.ref fa)) ∧ chkDef T d (stAt prog i) = true ∧ DefsOk T prog K mg ds is
theorem defsOk_get {T : Tab} {prog : Program} {K : PySem.W.Frag} {mg : Str → Option Value} : ∀ {ds : List Def} {is : List Nat} (f : Nat) (d : Def), DefsOk T prog K mg ds is → ds[f]? = some d → ∃ st fa fd, Fun K d.name d.name st fa fd ∧ chkDef T d st = true ∧ mg d.name = some (.ref fa)
  | [], _, _, _, _, e => by simp at e
  | _ :: _, [], _, _, h, _ => h.elim
  | d :: ds, i :: is, 0, d', h, e => by
    simp at e
    subst e
    obtain ⟨⟨fa, fd, F, m⟩, c, _⟩ := h
    exact ⟨_, fa, fd, F, c, m⟩
  | d :: ds, i :: is, f + 1, d', h, e => defsOk_get f d' h.2.2 (by simpa using e)
def NoneAll (K : PySem.W.Frag) : List Str → Prop
  | [] => True
  | x :: xs => PySem.W.nsIn K mainGlobals x = some none ∧ NoneAll K xs
theorem noneAll_get {K : PySem.W.Frag} {h : Heap} {mg : Str → Option Value} (X : K.In h) (G : h.Ns mainGlobals mg) : ∀ {xs : List Str}, NoneAll K xs → ∀ x ∈ xs, mg x = none
  | [], _, x, hx => by cases hx
  | y :: ys, hn, x, hx => by
    rcases List.mem_cons.mp hx with rfl | hx
    · exact PySem.W.mg_none_of X G hn.1
    · exact noneAll_get X G hn.2 x hx
def GlobAll (K : PySem.W.Frag) : List (Str × PyData) → Prop
  | [] => True
  | p :: ps => (∃ v u, PySem.W.nsIn K mainGlobals p.1 = some (some u) ∧ RelV v u ∧ Dv (fun _ => False) (fun _ => none) v p.2) ∧ GlobAll K ps
theorem globAll_get {K : PySem.W.Frag} {h : Heap} {mg : Str → Option Value} (X : K.In h) (G : h.Ns mainGlobals mg) : ∀ {xs : List (Str × PyData)}, GlobAll K xs → ∀ p ∈ xs, ∃ v u, mg p.1 = some u ∧ RelV v u ∧ Dv (fun _ => False) (fun _ => none) v p.2
  | [], _, x, hx => by cases hx
  | y :: ys, hn, x, hx => by
    rcases List.mem_cons.mp hx with rfl | hx
    · obtain ⟨v, u, a, b, c⟩ := hn.1
      exact ⟨v, u, PySem.W.mg_of X G a, b, c⟩
    · exact globAll_get X G hn.2 x hx
theorem glob_int {K : PySem.W.Frag} {x : Str} {i : Int} {t : Tok} (a : PySem.W.nsIn K mainGlobals x = some (some (.int i t))) : ∃ v u, PySem.W.nsIn K mainGlobals x = some (some u) ∧ RelV v u ∧ Dv (fun _ => False) (fun _ => none) v (.int i) := ⟨.int i, _, a, ⟨t, rfl⟩, .int i⟩
theorem pok_of {T : Tab} {prog : Program} {K : PySem.W.Frag} {h : Heap} {mg : Str → Option Value} {tops : List Nat} (X : K.In h) (G : h.Ns mainGlobals mg) (hd : DefsOk T prog K mg T.P tops) (hn : NoneAll K builtinNames) (hg : GlobAll K T.G)
    (hc : ∀ c ∈ T.C, ClsOk K mg T.C c) (hb : T.C ≠ [] → BasOk K mg) (ho : ∀ c, Cla.ok c = true → c ∈ T.C) (hh : T.hot = false) : POk T K mg :=
  ⟨fun f d e => defsOk_get f d hd e, noneAll_get X G hn, globAll_get X G hg, hc, hb, ho, hh⟩
end MP
end MEnd

section MCls
set_option Elab.async false
set_option linter.all false
set_option maxRecDepth 100000
set_option autoImplicit false
set_option maxHeartbeats 4000000
/-! MCls: the classes of a law's exceptions, by the written part; a law's end with them. -/
namespace MP
open PySem PySem.Spec PyProof.Rows L2
def clsAddr (K : PySem.W.Frag) (c : Nat) : Addr := match PySem.W.nsIn K mainGlobals (clsNm c) with
  | some (some (.ref C)) => C
  | _ => 0
theorem clsAddr_of {K : PySem.W.Frag} {c : Nat} {a : Addr} (h : PySem.W.nsIn K mainGlobals (clsNm c) = some (some (.ref a))) : clsAddr K c = a := by
  unfold clsAddr
  rw [h]
@[reducible] def claK (K : PySem.W.Frag) (Cs : List Nat) : Cla := ⟨clsAddr K, Cs.contains⟩
def clsB (K : PySem.W.Frag) (Cs : List Nat) (c : Nat) : Bool :=
  decide (PySem.W.nsIn K mainGlobals (clsNm c) = some (some (.ref (clsAddr K c)))) && PySem.W.keepIn K (.ref (clsAddr K c)) && decide (PySem.W.subIn K (.ref (clsAddr K c)) (.type "BaseException") = some true) && decide (PySem.W.subIn K (.ref (clsAddr K c)) (.type "ValueError") = some true) &&
  decide (PySem.W.typeIn K (.ref (clsAddr K c)) = some (.type "type")) && PySem.W.hasDictIn K (clsAddr K c) && (PySem.W.clsIn K (clsAddr K c)).isSome && decide (PySem.W.findIn K (.ref (clsAddr K c)) "__getattribute__" = some (some (.builtin "BaseException.__getattribute__"))) &&
  decide (PySem.W.findIn K (.ref (clsAddr K c)) "__getattr__" = some none) && (fldNms.all fun f => decide (PySem.W.findIn K (.ref (clsAddr K c)) f = some none)) && decide (PySem.W.findIn K (.ref (clsAddr K c)) "__class__" = some (some (.builtin "object.__class__"))) &&
  decide (PySem.W.mroIn K (clsAddr K c) (.type "object") = some true) && decide (PySem.W.specialIn K (.builtin "object.__class__") "__get__" = some (some (.builtin "getset_descriptor.__get__"))) && decide (PySem.W.takesIn K (.builtin "object.__class__") = some true) &&
  (Cs.all fun c' => decide (PySem.W.subIn K (.ref (clsAddr K c)) (.ref (clsAddr K c')) = some (subC c c')) && (decide (c = c') || decide (clsAddr K c ≠ clsAddr K c'))) &&
  (decide (c = 0) || !(clsFs c).isEmpty || PySem.W.excIn K (clsAddr K c) [.type "ValueError", .type "Exception", .type "BaseException", .type "object"] "ValueError.__new__")
def basB (K : PySem.W.Frag) : Bool :=
  decide (PySem.W.nsIn K mainGlobals "TableError" = some (some (.ref (clsAddr K 0)))) && PySem.W.readsIn K (clsAddr K 0) (.type "type") && decide (PySem.W.specialIn K (.ref (clsAddr K 0)) "__getattribute__" = some (some (.builtin "type.__getattribute__"))) &&
  (match PySem.W.findCls K (.ref (clsAddr K 0)) (.type "type") "__init__" with
    | some (.val v) => decide (v = .builtin "ValueError.__init__")
    | _ => false)
theorem clsOk_of {K : PySem.W.Frag} {h : Heap} {mg : Str → Option Value} {Cs : List Nat} {c : Nat} (X : K.In h) (G : h.Ns mainGlobals mg) (hc : c ∈ Cs) (hb : clsB K Cs c = true) (ho : c ≠ 0 → clsFs c ≠ [] → OexP K (clsAddr K c) c) : @ClsOk (claK K Cs) K mg Cs c := by
  unfold clsB at hb
  simp only [Bool.and_eq_true, decide_eq_true_eq, List.all_eq_true, Bool.or_eq_true] at hb
  obtain ⟨⟨⟨⟨⟨⟨⟨⟨⟨⟨⟨⟨⟨⟨⟨h1, h2⟩, h3⟩, h4⟩, h5⟩, h6⟩, h7⟩, h8⟩, h9⟩, h10⟩, h11⟩, h12⟩, h13⟩, h14⟩, h15⟩, h16⟩ := hb
  letI : Cla := claK K Cs
  exact { ok := List.contains_iff_mem.mpr hc, gC := PySem.W.mg_of X G h1, kC := h2, exC := h3, ve := h4, tyC := h5, hdC := h6, isC := h7, ga := h8, gg := h9, fl := h10, ca := h11, cm := h12, cn := h13, ct := h14
          sub := fun c' hc' => (h15 c' hc').1
          ne := fun c' hc' e => (h15 c' hc').2.resolve_left e
          pl := fun e f => by
            rcases h16 with (z | z) | z
            · exact (e z).elim
            · rw [f] at z
              cases z
            · exact z
          oex := ho }
theorem basOk_of {K : PySem.W.Frag} {h : Heap} {mg : Str → Option Value} {Cs : List Nat} (X : K.In h) (G : h.Ns mainGlobals mg) (hb : basB K = true) : @BasOk (claK K Cs) K mg := by
  unfold basB at hb
  simp only [Bool.and_eq_true, decide_eq_true_eq] at hb
  obtain ⟨⟨⟨h1, h2⟩, h3⟩, h4⟩ := hb
  letI : Cla := claK K Cs
  have h5 : PySem.W.findCls K (.ref (clsAddr K 0)) (.type "type") "__init__" = some (.val (.builtin "ValueError.__init__")) := by
    split at h4
    · rename_i v e
      rw [e, of_decide_eq_true h4]
    · cases h4
  exact { gT := PySem.W.mg_of X G h1, rd := h2, sp := h3, fi := h5 }
def ClsAll (K : PySem.W.Frag) (Cs : List Nat) : List Nat → Prop
  | [] => True
  | c :: r => (clsB K Cs c = true ∧ (c ≠ 0 → clsFs c ≠ [] → OexP K (clsAddr K c) c)) ∧ ClsAll K Cs r
theorem clsAll_get {K : PySem.W.Frag} {h : Heap} {mg : Str → Option Value} {Cs : List Nat} (X : K.In h) (G : h.Ns mainGlobals mg) : ∀ {l : List Nat}, (∀ c ∈ l, c ∈ Cs) → ClsAll K Cs l → ∀ c ∈ l, @ClsOk (claK K Cs) K mg Cs c
  | [], _, _, c, hc => by cases hc
  | d :: r, hl, ha, c, hc => by
    rcases List.mem_cons.mp hc with rfl | hc
    · exact clsOk_of X G (hl _ (List.mem_cons_self ..)) ha.1.1 ha.1.2
    · exact clsAll_get X G (fun y hy => hl y (List.mem_cons_of_mem _ hy)) ha.2 c hc
/-- a method's statement of the j-th statement of a class at a place of the top -/
def mtAt (P : Program) (i j : Nat) : Stmt := match stAt P i with
  | .ClassDef (body := b) .. => b.getD j (.Pass ⟨0, 0, 0, 0⟩)
  | s => s
def oexB (K : PySem.W.Frag) (C : Addr) : Bool := match K.lookup C with
  | some ⟨.type "type", _, .cls cd, sl⟩ => (match cd.mro, sl.toList with
    | .ref C' :: bm, [_, _, _, _, some (.builtin n), _] => C' == C && n == "ValueError.__new__" && !cd.hasDel && cd.hasDict && PySem.HandSPX.refsVE bm
    | _, _ => false)
  | _ => false
theorem oexC_of {K : PySem.W.Frag} {C : Addr} (q : oexB K C = true) (sa : PySem.W.findIn K (.ref C) "__setattr__" = some (some (.builtin "object.__setattr__"))) (ex : PySem.W.subIn K (.ref C) (.type "BaseException") = some true) (ty : PySem.W.typeIn K (.ref C) = some (.type "type")) (kc : PySem.W.keepIn K (.ref C) = true) : OexC K C := by
  refine ⟨?_, sa, ex, ty, kc⟩
  unfold oexB at q
  split at q
  · rename_i dd cd sl ho
    split at q
    · rename_i C' bm k0 k1 k2 k3 n k5 hm hs
      simp only [Bool.and_eq_true, beq_iff_eq, Bool.not_eq_true'] at q
      obtain ⟨⟨⟨⟨rfl, rfl⟩, hdel⟩, hh⟩, ht⟩ := q
      obtain ⟨nm, bs, mro, ns, qn, hd, sn, sub, ab, col, del⟩ := cd
      dsimp only at hm hdel hh
      subst hm hdel hh
      have hsl : sl = #[k0, k1, k2, k3, some (.builtin "ValueError.__new__"), k5] := by
        obtain ⟨l⟩ := sl
        simp only at hs
        rw [hs]
      subst hsl
      exact ⟨nm, qn, ns, bs, bm, sn, sub, ab, col, dd, k0, k1, k2, k3, k5, ho, ht⟩
    · cases q
  · cases q
theorem oexP_of {K : PySem.W.Frag} {C fI : Addr} {c : Nat} {st : Stmt} {qn : Str} {oc : Value} {od an : Option Addr} {sl : Array (Option Value)} {kV doc pm cdv ct : Value} (z : PySem.W.nsIn K mainGlobals (clsNm c) = some (some (.ref C))) (T : OexC K C) (i1 : PySem.W.findIn K (.ref C) "__init__" = some (some (.ref fI))) (i2 : PySem.W.typeIn K (.ref fI) = some (.type "function"))
    (l : K.lookup fI = some ⟨oc, od, .func (PySem.W.fnOf "__init__" qn (defArgs st) (defBody st) (defScope st) .none kV doc pm an cdv ct), sl⟩) (cd : PySem.W.codeIn K cdv qn = true) (k : PySem.W.keepIn K (.ref fI) = true)
    (hb : (initB c (defBody st) && scB (("self" : Str) :: clsFs c) (("self" : Str) :: clsFs c) (defScope st) && argB (("self" : Str) :: clsFs c) (defArgs st) && gloB (defScope st) "TableError") = true) : OexP K (clsAddr K c) c := by
  rw [clsAddr_of z]
  simp only [Bool.and_eq_true] at hb
  obtain ⟨⟨⟨h1, h2⟩, h3⟩, h4⟩ := hb
  letI : Cla := claK K []
  have F := fun_mk l cd k
  have S := scB_of h2
  refine ⟨T, st, fI, _, qn, i1, i2, F, h1, S, argB_of F h3 S.nd, ?_⟩
  unfold gloB at h4
  split at h4
  · assumption
  · cases h4
theorem walk_T {l : PySem.W.OpenLaw} {q : Program} {loose : List Str} {XP : (Str → Option Value) → Heap → Prop} {YP : World → Heap → Prop} {d : DefRec} {K : Params → PySem.W.Frag} {x : Str} {T : Tab} {fuel k f : Nat} {df : Def} (law : LawOk T.P fuel k f)
    (hn : l.most = some 63) (hdf : d.params.defaults = []) (hr : Room (k + 2) callerA) (gs : callerA.guards = some []) (hY : ∀ (w : World) (h : Heap), YP w h → (K w.params).In h) (hf : T.P[f]? = some df) (hdn : df.name = d.name) (hps : df.ps = [x])
    (pk : ∀ (w : World) (mg : Str → Option Value) (h : Heap), (K w.params).In h → h.Ns mainGlobals mg → @POk (claK (K w.params) T.C) T (K w.params) mg) (nl : ∀ w : World, noLists (K w.params) = true) :
    PySem.W.WalkO q loose XP YP l.row.toRowW d [] (fun f vs => PySem.call f vs) := by
  letI i0 : Cla := ⟨fun _ => 0, fun _ => false⟩
  refine walk_G (l := l) (n := 63) (k := k + 2) (x := x) (CX := fun w => L2.CX l.prog w) (sp := fun w => @spOf (claK (K w.params) T.C) (@xrC (claK (K w.params) T.C)) ⟨callF T.P fuel k, fuel⟩ f) hn (by decide) hdf hr gs hY ?_ (fun w => noLists_of (nl w)) (fun w H a ob ns hl hs => @law_asks (claK (K w.params) T.C) _ _ _ _ law H a ob ns hl hs) (fun w => cx_none l.prog w [])
  intro w mg fa h KX G hmg
  have := @law_F (claK (K w.params) T.C) T l.prog w (K w.params) mg fuel k f df (pk w mg h KX G) hf fa (by rw [hdn]; exact hmg)
  rw [hps] at this
  exact this
end MP
end MCls

section MW
set_option Elab.async false
set_option linter.all false
set_option maxRecDepth 100000
set_option autoImplicit false
set_option maxHeartbeats 4000000
/-! MW: how runs of MPy's texts are reckoned. -/
namespace MP
open PySem
/-- where no class is asked for -/
instance cla0 : Cla := ⟨fun _ => 0, fun _ => false⟩

section
variable {Xp : Exc → Store → Prop} {C : Ctx} {ρ : Env} {st : Store}
/-- what a def's body must come to -/
def Ends (Xp : Exc → Store → Prop) (n : Nat) (Q : D → Store → Prop) : Out → Store → Prop
  | .ret x, s => wp Xp (leave n x) s Q
  | .next _, s => wp Xp (leave n (.dat .none)) s Q
  | _, _ => False
theorem wp_call {P : List Def} {w k f : Nat} {d : Def} {args : List D} {Q : D → Store → Prop} (hf : P[f]? = some d) (hl : args.length = d.ps.length)
    (h : wp (fun x s => Xp x (s.take st.length)) (evSts ⟨callF P w k, w⟩ d.body (args.map some ++ List.replicate (d.names.length - args.length) none)) st (Ends (fun x s => Xp x (s.take st.length)) st.length Q)) : wp Xp (callF P w (k + 1) f args) st Q := by
  have e : callF P w (k + 1) f args = runDef ⟨callF P w k, w⟩ d args := by rw [callF, hf]
  rw [e]
  unfold wp runDef
  rw [if_pos hl]
  unfold cutX
  have h2 : wp (fun x s => Xp x (s.take st.length)) (do
      let o ← evSts ⟨callF P w k, w⟩ d.body (args.map some ++ List.replicate (d.names.length - args.length) none)
      match o with
      | .ret x => leave st.length x
      | .next _ => leave st.length (.dat .none)
      | _ => fail) st Q := by
    rw [wp_bind]
    refine wp_mono h fun o s z => ?_
    cases o with
    | ret x => exact z
    | next _ => exact z
    | brk _ => exact z.elim
    | cnt _ => exact z.elim
  unfold wp at h2
  generalize hm : (do
      let o ← evSts ⟨callF P w k, w⟩ d.body (args.map some ++ List.replicate (d.names.length - args.length) none)
      match o with
      | .ret x => leave st.length x
      | .next _ => leave st.length (.dat .none)
      | _ => fail : M D) = m at h2 ⊢
  cases e2 : m st with
  | ok a s => rw [e2] at h2; exact h2
  | exc x s => rw [e2] at h2; exact h2
  | no => rw [e2] at h2; exact h2
/-! ### small runs -/
section
variable {α : Type} {P : D → Store → Prop}
theorem w_bind {β : Type} {m : M α} {k : α → M β} {R : β → Store → Prop} : wp Xp (m >>= k) st R ↔ wp Xp m st fun a s => wp Xp (k a) s R := wp_bind
theorem w_pure {a : α} {R : α → Store → Prop} : wp Xp (pure a) st R ↔ R a st := Iff.rfl
theorem w_ofO {o : Option α} {R : α → Store → Prop} : wp Xp (ofO o) st R ↔ ∃ a, o = some a ∧ R a st := wp_ofO
theorem w_guard {b : Bool} {R : Unit → Store → Prop} : wp Xp (guardB b) st R ↔ b = true ∧ R () st := wp_guard
theorem w_look {d : PyData} {R : PyData → Store → Prop} : wp Xp (look (.dat d)) st R ↔ R d st := Iff.rfl
theorem w_lookN {d : List PyData} {R : PyData → Store → Prop} : wp Xp (look (.newL d)) st R ↔ R (.list d) st := Iff.rfl
theorem w_lookR {i : Nat} {R : PyData → Store → Prop} : wp Xp (look (.ref i)) st R ↔ ∃ xs, st[i]? = some (.lst xs) ∧ R (.list xs) st := wp_lookR
theorem w_settle {d : PyData} {R : PyData → Store → Prop} : wp Xp (settle (.dat d)) st R ↔ R d st := Iff.rfl
theorem w_settleN {d : List PyData} {R : PyData → Store → Prop} : wp Xp (settle (.newL d)) st R ↔ R (.list d) st := Iff.rfl
theorem w_settleD {t : Bool} {d : List (PyData × PyData)} {R : PyData → Store → Prop} : wp Xp (settle (.newD t d)) st R ↔ R (.dict d) st := Iff.rfl
theorem w_asInt {d : D} {R : Int → Store → Prop} : wp Xp (asInt d) st R ↔ wp Xp (look d) st fun u s => ∃ i, u = .int i ∧ R i s := by
  unfold asInt
  rw [wp_bind]
  constructor <;> intro h <;> refine wp_mono h fun u s z => ?_
  · obtain ⟨i, e, z⟩ := wp_ofO.mp z
    cases u <;> first | (cases e; done) | skip
    cases e
    exact ⟨_, rfl, z⟩
  · obtain ⟨i, rfl, z⟩ := z
    exact z
theorem w_asBool {d : D} {R : Bool → Store → Prop} : wp Xp (asBool d) st R ↔ wp Xp (look d) st fun u s => ∃ i, u = .bool i ∧ R i s := by
  unfold asBool
  rw [wp_bind]
  constructor <;> intro h <;> refine wp_mono h fun u s z => ?_
  · obtain ⟨i, e, z⟩ := wp_ofO.mp z
    cases u <;> first | (cases e; done) | skip
    cases e
    exact ⟨_, rfl, z⟩
  · obtain ⟨i, rfl, z⟩ := z
    exact z
theorem w_refOf {i : Nat} {R : Nat → Store → Prop} : wp Xp (refOf (.ref i)) st R ↔ R i st := Iff.rfl
theorem w_cellAt {i : Nat} {R : List PyData → Store → Prop} : wp Xp (cellAt i) st R ↔ ∃ xs, st[i]? = some (.lst xs) ∧ R xs st := wp_cellAt
theorem w_newCell {xs : List PyData} : wp Xp (newCell (.newL xs)) st P ↔ P (.ref st.length) (st ++ [.lst xs]) := Iff.rfl
theorem w_newCellD {t : Bool} {xs : List (PyData × PyData)} : wp Xp (newCell (.newD t xs)) st P ↔ P (.ref st.length) (st ++ [.dct t xs]) := Iff.rfl
theorem w_looks0 {R : List PyData → Store → Prop} : wp Xp (looks []) st R ↔ R [] st := Iff.rfl
theorem w_looks {d : D} {ds : List D} {R : List PyData → Store → Prop} : wp Xp (looks (d :: ds)) st R ↔ wp Xp (look d) st fun u s => wp Xp (looks ds) s fun us s => R (u :: us) s := by
  rw [looks]
  simp only [wp_bind, wp_pure]
theorem w_noX {m : M α} {R : α → Store → Prop} : wp Xp (noX m) st R ↔ wp NoX m st R := wp_noX

theorem keep_dat {d : PyData} : keep (.dat d) = .dat d := rfl
theorem keep_ref {i : Nat} : keep (.ref i) = .ref i := rfl
theorem keep_newL {d : List PyData} : keep (.newL d) = .dat (.list d) := rfl
theorem keep_newD {t : Bool} {d : List (PyData × PyData)} : keep (.newD t d) = .dat (.dict d) := rfl
/-! ### expressions -/
theorem w_var {i : Nat} : wp Xp (evE C (.var i) ρ) st P ↔ ∃ d, ρ[i]? = some (some d) ∧ P d st := by
  rw [evE]
  rw [wp_ofO]
  constructor
  · rintro ⟨d, e, h⟩
    refine ⟨d, ?_, h⟩
    split at e
    · cases e; assumption
    · cases e
  · rintro ⟨d, e, h⟩
    exact ⟨d, by rw [e], h⟩
theorem w_con {d : PyData} : wp Xp (evE C (.con d) ρ) st P ↔ P (.dat d) st := by rw [evE]; exact Iff.rfl
theorem w_glob {x : Str} {d : PyData} : wp Xp (evE C (.glob x d) ρ) st P ↔ P (.dat d) st := by rw [evE]; exact Iff.rfl
theorem w_bin {op : Bop} {a b : Ex} : wp Xp (evE C (.bin op a b) ρ) st P ↔ wp Xp (evE C a ρ) st fun x s => wp Xp (evE C b ρ) s fun y s => wp Xp (look x) s fun u s => wp Xp (look y) s fun v s => ∃ d, bopV op u v = some d ∧ P d s := by
  rw [evE]
  simp only [wp_bind, wp_ofO]
theorem w_neg {a : Ex} : wp Xp (evE C (.neg a) ρ) st P ↔ wp Xp (evE C a ρ) st fun x s => wp Xp (asInt x) s fun i s => P (.dat (.int (-i))) s := by
  rw [evE]
  simp only [wp_bind, wp_pure]
theorem w_cmp {op : Cop} {a b : Ex} : wp Xp (evE C (.cmp op a b) ρ) st P ↔ wp Xp (evE C a ρ) st fun x s => wp Xp (evE C b ρ) s fun y s => wp Xp (look x) s fun u s => wp Xp (look y) s fun v s => ∃ d, copV op u v = some d ∧ P (.dat (.bool d)) s := by
  rw [evE]
  simp only [wp_bind, wp_ofO, Option.map_eq_some_iff]
  constructor <;> intro h <;> refine wp_mono h fun x s h => wp_mono h fun y s h => wp_mono h fun u s h => wp_mono h fun v s h => ?_
  · obtain ⟨_, ⟨d, e, rfl⟩, h⟩ := h
    exact ⟨d, e, h⟩
  · obtain ⟨d, e, h⟩ := h
    exact ⟨_, ⟨d, e, rfl⟩, h⟩
theorem w_chain {o1 o2 : Cop} {a b c : Ex} : wp Xp (evE C (.chain o1 o2 a b c) ρ) st P ↔ wp Xp (evE C a ρ) st fun x s => wp Xp (evE C b ρ) s fun y s => wp Xp (look x) s fun u s => wp Xp (look y) s fun v s => ∃ r, copV o1 u v = some r ∧
    ((r = true → wp Xp (evE C c ρ) s fun z s => wp Xp (look y) s fun v' s => wp Xp (look z) s fun w s => ∃ r', copV o2 v' w = some r' ∧ P (.dat (.bool r')) s) ∧ (r = false → P (.dat (.bool false)) s)) := by
  rw [evE]
  simp only [wp_bind, wp_ofO]
  constructor <;> intro h <;> refine wp_mono h fun x s h => wp_mono h fun y s h => wp_mono h fun u s h => wp_mono h fun v s h => ?_
  · obtain ⟨r, e, h⟩ := h
    refine ⟨r, e, fun z => ?_, fun z => ?_⟩
    · subst z
      simp only [wp_bind, wp_ofO] at h
      exact h
    · subst z; exact h
  · obtain ⟨r, e, h1, h2⟩ := h
    refine ⟨r, e, ?_⟩
    cases r with
    | true =>
      simp only [wp_bind, wp_ofO]
      exact h1 rfl
    | false => exact h2 rfl
theorem w_isin {ng : Bool} {a b : Ex} : wp Xp (evE C (.isin ng a b) ρ) st P ↔ wp Xp (evE C a ρ) st fun x s => wp Xp (evE C b ρ) s fun y s => wp Xp (look x) s fun u s => wp Xp (look y) s fun v s => ∃ d, inV u v = some d ∧ P (.dat (.bool (if ng then !d else d))) s := by
  rw [evE]
  simp only [wp_bind, wp_ofO, Option.map_eq_some_iff]
  constructor <;> intro h <;> refine wp_mono h fun x s h => wp_mono h fun y s h => wp_mono h fun u s h => wp_mono h fun v s h => ?_
  · obtain ⟨_, ⟨_, ⟨d, e, rfl⟩, rfl⟩, h⟩ := h
    exact ⟨d, e, h⟩
  · obtain ⟨d, e, h⟩ := h
    exact ⟨_, ⟨_, ⟨d, e, rfl⟩, rfl⟩, h⟩
theorem w_and {a b : Ex} : wp Xp (evE C (.and a b) ρ) st P ↔ wp Xp (evE C a ρ) st fun x s => wp Xp (asBool x) s fun k s => (k = true → wp Xp (evE C b ρ) s P) ∧ (k = false → P (.dat (.bool false)) s) := by
  rw [evE]
  simp only [wp_bind]
  constructor <;> intro h <;> refine wp_mono h fun x s h => wp_mono h fun k s h => ?_
  · cases k with
    | true => exact ⟨fun _ => h, fun z => nomatch z⟩
    | false => exact ⟨fun z => (nomatch z), fun _ => h⟩
  · cases k with
    | true => exact h.1 rfl
    | false => exact h.2 rfl
theorem w_or {a b : Ex} : wp Xp (evE C (.or a b) ρ) st P ↔ wp Xp (evE C a ρ) st fun x s => wp Xp (asBool x) s fun k s => (k = true → P (.dat (.bool true)) s) ∧ (k = false → wp Xp (evE C b ρ) s P) := by
  rw [evE]
  simp only [wp_bind]
  constructor <;> intro h <;> refine wp_mono h fun x s h => wp_mono h fun k s h => ?_
  · cases k with
    | true => exact ⟨fun _ => h, fun z => nomatch z⟩
    | false => exact ⟨fun z => (nomatch z), fun _ => h⟩
  · cases k with
    | true => exact h.1 rfl
    | false => exact h.2 rfl
theorem w_not {a : Ex} : wp Xp (evE C (.not a) ρ) st P ↔ wp Xp (evE C a ρ) st fun x s => wp Xp (asBool x) s fun k s => P (.dat (.bool (!k))) s := by
  rw [evE]
  simp only [wp_bind, wp_pure]
theorem w_ifx {c a b : Ex} : wp Xp (evE C (.ife c a b) ρ) st P ↔ wp Xp (evE C c ρ) st fun x s => wp Xp (asBool x) s fun k s => (k = true → wp Xp (evE C a ρ) s P) ∧ (k = false → wp Xp (evE C b ρ) s P) := by
  rw [evE]
  simp only [wp_bind]
  constructor <;> intro h <;> refine wp_mono h fun x s h => wp_mono h fun k s h => ?_
  · cases k with
    | true => exact ⟨fun _ => h, fun z => nomatch z⟩
    | false => exact ⟨fun z => (nomatch z), fun _ => h⟩
  · cases k with
    | true => exact h.1 rfl
    | false => exact h.2 rfl
theorem w_tup {es : Exs} : wp Xp (evE C (.tup es) ρ) st P ↔ wp Xp (evEs C es ρ) st fun xs s => xs.length ≤ LIM ∧ P (.dat (.tuple xs)) s := by
  rw [evE]
  simp only [wp_bind, wp_guard, wp_pure, decide_eq_true_eq]
theorem w_lst {es : Exs} : wp Xp (evE C (.lst es) ρ) st P ↔ wp Xp (evEs C es ρ) st fun xs s => xs.length ≤ LIM ∧ P (.newL xs) s := by
  rw [evE]
  simp only [wp_bind, wp_guard, wp_pure, decide_eq_true_eq]
theorem w_emp {t : Bool} : wp Xp (evE C (.emp t) ρ) st P ↔ P (.newD t []) st := by rw [evE]; exact Iff.rfl
theorem w_idx {a b : Ex} : wp Xp (evE C (.idx a b) ρ) st P ↔ wp Xp (evE C a ρ) st fun x s => wp Xp (evE C b ρ) s fun y s => wp Xp (look x) s fun u s => wp Xp (look y) s fun v s => ∃ d, idxV u v = some d ∧ P (.dat d) s := by
  rw [evE]
  simp only [wp_bind, wp_ofO, Option.map_eq_some_iff]
  constructor <;> intro h <;> refine wp_mono h fun x s h => wp_mono h fun y s h => wp_mono h fun u s h => wp_mono h fun v s h => ?_
  · obtain ⟨_, ⟨d, e, rfl⟩, h⟩ := h
    exact ⟨d, e, h⟩
  · obtain ⟨d, e, h⟩ := h
    exact ⟨_, ⟨d, e, rfl⟩, h⟩
theorem w_slc {a : Ex} {lo hi : Opt} : wp Xp (evE C (.slc a lo hi) ρ) st P ↔ wp Xp (evE C a ρ) st fun x s => wp Xp (evO C lo ρ) s fun l s => wp Xp (evO C hi ρ) s fun h s => wp Xp (look x) s fun u s => ∃ d, cutV u l h = some d ∧ P d s := by
  rw [evE]
  simp only [wp_bind, wp_ofO]
theorem w_bi {f : Bi} {es : Exs} : wp Xp (evE C (.bi f es) ρ) st P ↔ wp Xp (evAs C es ρ) st fun xs s => wp Xp (looks xs) s fun us s => ∃ d, biV f us = some d ∧ P d s := by
  rw [evE]
  simp only [wp_bind, wp_ofO]
theorem w_lrng {a : Ex} : wp Xp (evE C (.lrng a) ρ) st P ↔ wp Xp (evE C a ρ) st fun x s => wp Xp (asInt x) s fun i s => small i = true ∧ P (.newL (rngL 0 i.toNat)) s := by
  rw [evE]
  simp only [wp_bind, wp_guard, wp_pure]
theorem w_isi {a : Ex} {ts : List Ty} {par : Bool} : wp Xp (evE C (.isi a ts par) ρ) st P ↔ wp Xp (evE C a ρ) st fun x s => wp Xp (look x) s fun u s => P (.dat (.bool (ts.any fun t => isiV t u))) s := by
  rw [evE]
  simp only [wp_bind, wp_pure]
theorem w_call {f : Nat} {es : Exs} : wp Xp (evE C (.call f es) ρ) st P ↔ wp Xp (evAs C es ρ) st fun xs s => wp Xp (C.call f xs) s P := by
  rw [evE]
  simp only [wp_bind]
theorem w_comp {elt : Ex} {tg : Tg} {it : It} {ifs : Opt} {own : List (Str × Nat)} : wp Xp (evE C (.comp elt tg it ifs own) ρ) st P ↔ wp Xp (evIt C it ρ) st fun xs s => wp Xp (lcGo (fun x => noX do
      let ρ' ← evTg C tg (.dat x) (wipeE ρ (own.map (·.2)))
      let k ← evIf C ifs ρ'
      match k with
      | true => do
        let y ← evE C elt ρ'
        let z ← settle y
        pure (some z)
      | false => pure none) xs []) s fun ys s => P (.newL ys) s := by
  rw [evE]
  simp only [wp_bind, wp_pure] <;> exact Iff.rfl
theorem w_cell {e : Ex} : wp Xp (evE C (.cell e) ρ) st P ↔ wp Xp (evE C e ρ) st fun x s => wp Xp (newCell x) s P := by
  rw [evE]
  simp only [wp_bind]
theorem w_app {a x : Ex} : wp Xp (evE C (.app a x) ρ) st P ↔ wp Xp (evE C a ρ) st fun p s => wp Xp (refOf p) s fun i s => wp Xp (cellAt i) s fun _ s => wp Xp (evE C x ρ) s fun y s => wp Xp (settle y) s fun z s => wp Xp (cellAt i) s fun xs s => xs.length < LIM ∧ P (.dat .none) (s.set i (.lst (xs ++ [z]))) := by
  rw [evE]
  simp only [wp_bind, wp_guard, wp_pure, wp_putCell, decide_eq_true_eq]
theorem w_pop {a : Ex} : wp Xp (evE C (.pop a) ρ) st P ↔ wp Xp (evE C a ρ) st fun p s => wp Xp (refOf p) s fun i s => wp Xp (cellAt i) s fun xs s => ∃ y, xs.getLast? = some y ∧ P (.dat y) (s.set i (.lst xs.dropLast)) := by
  rw [evE]
  simp only [wp_bind, wp_ofO, wp_pure, wp_putCell]
theorem w_popAt {a x : Ex} : wp Xp (evE C (.popAt a x) ρ) st P ↔ wp Xp (evE C a ρ) st fun p s => wp Xp (refOf p) s fun i s => wp Xp (cellAt i) s fun _ s => wp Xp (evE C x ρ) s fun y s => wp Xp (asInt y) s fun k s => wp Xp (cellAt i) s fun xs s => xs.length ≤ LIM ∧ ∃ j, ixPl xs.length k = some j ∧ ∃ z, xs[j]? = some z ∧ P (.dat z) (s.set i (.lst (xs.eraseIdx j))) := by
  rw [evE]
  simp only [wp_bind, wp_guard, wp_ofO, wp_pure, wp_putCell, decide_eq_true_eq]
theorem w_esN {R : List PyData → Store → Prop} : wp Xp (evEs C .nil ρ) st R ↔ R [] st := by rw [evEs]; exact Iff.rfl
theorem w_es {e : Ex} {es : Exs} {R : List PyData → Store → Prop} : wp Xp (evEs C (.cons e es) ρ) st R ↔ wp Xp (evE C e ρ) st fun x s => wp Xp (settle x) s fun u s => wp Xp (evEs C es ρ) s fun us s => R (u :: us) s := by
  rw [evEs]
  simp only [wp_bind, wp_pure]
theorem w_asN {R : List D → Store → Prop} : wp Xp (evAs C .nil ρ) st R ↔ R [] st := by rw [evAs]; exact Iff.rfl
theorem w_as {e : Ex} {es : Exs} {R : List D → Store → Prop} : wp Xp (evAs C (.cons e es) ρ) st R ↔ wp Xp (evE C e ρ) st fun x s => wp Xp (evAs C es ρ) s fun us s => R (keep x :: us) s := by
  rw [evAs]
  simp only [wp_bind, wp_pure]
theorem w_oN {R : Option Int → Store → Prop} : wp Xp (evO C .none ρ) st R ↔ R none st := by rw [evO]; exact Iff.rfl
theorem w_o {e : Ex} {R : Option Int → Store → Prop} : wp Xp (evO C (.some e) ρ) st R ↔ wp Xp (evE C e ρ) st fun x s => wp Xp (asInt x) s fun i s => R (some i) s := by
  rw [evO]
  simp only [wp_bind, wp_pure]
theorem w_ifN {R : Bool → Store → Prop} : wp Xp (evIf C .none ρ) st R ↔ R true st := by rw [evIf]; exact Iff.rfl
theorem w_if {e : Ex} {R : Bool → Store → Prop} : wp Xp (evIf C (.some e) ρ) st R ↔ wp Xp (evE C e ρ) st fun x s => wp Xp (asBool x) s R := by
  rw [evIf, wp_bind]
theorem w_tgN {i : Nat} {d : D} {R : Env → Store → Prop} : wp Xp (evTg C (.name i) d ρ) st R ↔ R (ρ.set i (some (keep d))) st := by rw [evTg]; exact Iff.rfl
theorem w_tgT {ts : Tgs} {d : D} {R : Env → Store → Prop} : wp Xp (evTg C (.tup ts) d ρ) st R ↔ wp Xp (look d) st fun u s => ∃ xs, u = .tuple xs ∧ xs.length = tgsLen ts ∧ wp Xp (evTgs C ts xs ρ) s R := by
  rw [evTg, wp_bind]
  constructor <;> intro h <;> refine wp_mono h fun u s h => ?_
  · cases u <;> first | exact h.elim | skip
    rename_i xs
    rw [wp_bind] at h
    obtain ⟨a, b⟩ := wp_guard.mp h
    exact ⟨xs, rfl, of_decide_eq_true a, b⟩
  · obtain ⟨xs, rfl, a, b⟩ := h
    show wp Xp (guardB _ >>= _) s R
    rw [wp_bind]
    exact wp_guard.mpr ⟨decide_eq_true a, b⟩
theorem w_tgS {a b : Ex} {d : D} {R : Env → Store → Prop} : wp Xp (evTg C (.sub a b) d ρ) st R ↔ wp Xp (evE C a ρ) st fun p s => wp Xp (evE C b ρ) s fun y s => wp Xp (asInt y) s fun k s => wp Xp (settle d) s fun z s => wp Xp (refOf p) s fun i s => wp Xp (cellAt i) s fun xs s => ∃ j, ixPl xs.length k = some j ∧ R ρ (s.set i (.lst (xs.set j z))) := by
  rw [evTg]
  simp only [wp_bind, wp_ofO, wp_pure, wp_putCell]
theorem w_tgsN {R : Env → Store → Prop} : wp Xp (evTgs C .nil [] ρ) st R ↔ R ρ st := by rw [evTgs]; exact Iff.rfl
theorem w_tgs {t : Tg} {ts : Tgs} {x : PyData} {xs : List PyData} {R : Env → Store → Prop} : wp Xp (evTgs C (.cons t ts) (x :: xs) ρ) st R ↔ wp Xp (evTg C t (.dat x) ρ) st fun ρ' s => wp Xp (evTgs C ts xs ρ') s R := by
  rw [evTgs, wp_bind]
/-- what is walked, of a value -/
def seqOf : D → Option (List PyData)
  | .dat (.list xs) => some xs
  | .dat (.tuple xs) => some xs
  | .newL xs => some xs
  | _ => none
theorem w_itV {e : Ex} {R : List PyData → Store → Prop} : wp Xp (evIt C (.val e) ρ) st R ↔ wp Xp (evE C e ρ) st fun x s => ∃ xs, seqOf x = some xs ∧ R xs s := by
  rw [evIt, wp_bind]
  constructor <;> intro h <;> refine wp_mono h fun x s h => ?_
  · cases x with
    | dat d => cases d <;> first | exact h.elim | exact ⟨_, rfl, h⟩
    | newL xs => exact ⟨_, rfl, h⟩
    | newD t k => exact h.elim
    | tree t => exact h.elim
    | ref i => exact h.elim
  · obtain ⟨xs, e, h⟩ := h
    cases x with
    | dat d => cases d <;> first | (cases e; done) | (cases e; exact h)
    | newL xs => cases e; exact h
    | newD t k => cases e
    | tree t => cases e
    | ref i => cases e
theorem w_it1 {a : Ex} {R : List PyData → Store → Prop} : wp Xp (evIt C (.rng1 a) ρ) st R ↔ wp Xp (evE C a ρ) st fun x s => wp Xp (asInt x) s fun i s => small i = true ∧ R (rngL 0 i.toNat) s := by
  rw [evIt]
  simp only [wp_bind, wp_guard, wp_pure]
theorem w_it2 {a b : Ex} {R : List PyData → Store → Prop} : wp Xp (evIt C (.rng2 a b) ρ) st R ↔ wp Xp (evE C a ρ) st fun x s => wp Xp (evE C b ρ) s fun y s => wp Xp (asInt x) s fun i s => wp Xp (asInt y) s fun j s => (small i && small j) = true ∧ R (rngL i (j - i).toNat) s := by
  rw [evIt]
  simp only [wp_bind, wp_guard, wp_pure]
theorem w_itE {e : Ex} {R : List PyData → Store → Prop} : wp Xp (evIt C (.enum e) ρ) st R ↔ wp Xp (evE C e ρ) st fun x s => ∃ xs, seqOf x = some xs ∧ R (enumL xs 0) s := by
  rw [evIt, wp_bind]
  constructor <;> intro h <;> refine wp_mono h fun x s h => ?_
  · cases x with
    | dat d => cases d <;> first | exact h.elim | exact ⟨_, rfl, h⟩
    | newL xs => exact ⟨_, rfl, h⟩
    | newD t k => exact h.elim
    | tree t => exact h.elim
    | ref i => exact h.elim
  · obtain ⟨xs, e, h⟩ := h
    cases x with
    | dat d => cases d <;> first | (cases e; done) | (cases e; exact h)
    | newL xs => cases e; exact h
    | newD t k => cases e
    | tree t => cases e
    | ref i => cases e
theorem w_itZ {es : Exs} {R : List PyData → Store → Prop} : wp Xp (evIt C (.zip es) ρ) st R ↔ wp Xp (evAs C es ρ) st fun ds s => ∃ l, zipD ds = some l ∧ R l s := by
  rw [evIt, wp_bind]
  constructor <;> intro h <;> refine wp_mono h fun ds s h => ?_
  · exact wp_ofO.mp h
  · exact wp_ofO.mpr h
theorem w_itZ3 {es : Exs} {R : List PyData → Store → Prop} : wp Xp (evIt C (.zip3 es) ρ) st R ↔ wp Xp (evAs C es ρ) st fun ds s => ∃ l, zipD3 ds = some l ∧ R l s := by
  rw [evIt, wp_bind]
  constructor <;> intro h <;> refine wp_mono h fun ds s h => ?_
  · exact wp_ofO.mp h
  · exact wp_ofO.mpr h

/-! ### statements -/
variable {K : Out → Store → Prop}
theorem w_asg {t : Tg} {e : Ex} : wp Xp (evSt C (.asg t e) ρ) st K ↔ wp Xp (evE C e ρ) st fun x s => wp NoX (evTg C t x ρ) s fun ρ' s => K (.next ρ') s := by
  rw [evSt]
  simp only [wp_bind, wp_noX, wp_pure]
theorem w_par {i j : Nat} {es : Exs} : wp Xp (evSt C (.par i j es) ρ) st K ↔ wp Xp (evAs C es ρ) st fun ds s => ∃ x y, ds = [x, y] ∧ K (.next ((ρ.set i (some x)).set j (some y))) s := by
  rw [evSt, wp_bind]
  constructor <;> intro h <;> refine wp_mono h fun ds s h => ?_
  · split at h
    · exact ⟨_, _, rfl, h⟩
    · exact h.elim
  · obtain ⟨x, y, rfl, h⟩ := h
    exact h
theorem w_expr {e : Ex} : wp Xp (evSt C (.expr e) ρ) st K ↔ wp Xp (evE C e ρ) st fun _ s => K (.next ρ) s := by
  rw [evSt]
  simp only [wp_bind, wp_pure]
theorem w_ret {e : Ex} : wp Xp (evSt C (.ret e) ρ) st K ↔ wp Xp (evE C e ρ) st fun x s => K (.ret x) s := by
  rw [evSt]
  simp only [wp_bind, wp_pure]
theorem w_sife {c : Ex} {a b : Sts} : wp Xp (evSt C (.ife c a b) ρ) st K ↔ wp Xp (evE C c ρ) st fun x s => wp Xp (asBool x) s fun k s => (k = true → wp Xp (evSts C a ρ) s K) ∧ (k = false → wp Xp (evSts C b ρ) s K) := by
  rw [evSt]
  simp only [wp_bind]
  constructor <;> intro h <;> refine wp_mono h fun x s h => wp_mono h fun k s h => ?_
  · cases k with
    | true => exact ⟨fun _ => h, fun z => nomatch z⟩
    | false => exact ⟨fun z => (nomatch z), fun _ => h⟩
  · cases k with
    | true => exact h.1 rfl
    | false => exact h.2 rfl
theorem w_stsN : wp Xp (evSts C .nil ρ) st K ↔ K (.next ρ) st := by rw [evSts]; exact Iff.rfl
/-- a block of one statement -/
theorem w_sts1 {s : St} : wp Xp (evSts C (.cons s .nil) ρ) st K ↔ wp Xp (evSt C s ρ) st K := by
  rw [evSts, wp_bind]
  constructor <;> intro h <;> refine wp_mono h fun o s h => ?_
  · cases o <;> first | exact h | (rw [evSts] at h; exact h)
  · cases o <;> first | exact h | (rw [evSts]; exact h)
theorem w_brk : wp Xp (evSt C .brk ρ) st K ↔ K (.brk ρ) st := by rw [evSt]; exact Iff.rfl
theorem w_cnt : wp Xp (evSt C .cnt ρ) st K ↔ K (.cnt ρ) st := by rw [evSt]; exact Iff.rfl
theorem w_pass : wp Xp (evSt C .pass ρ) st K ↔ K (.next ρ) st := by rw [evSt]; exact Iff.rfl
theorem w_leave {n : Nat} {d : PyData} : wp Xp (leave n (.dat d)) st P ↔ P (.dat d) (st.take n) := Iff.rfl
theorem w_leaveN {n : Nat} {d : List PyData} : wp Xp (leave n (.newL d)) st P ↔ P (.newL d) (st.take n) := Iff.rfl
theorem w_leaveD {n : Nat} {t : Bool} {d : List (PyData × PyData)} : wp Xp (leave n (.newD t d)) st P ↔ P (.newD t d) (st.take n) := Iff.rfl
theorem ends_ret {n : Nat} {x : D} : Ends Xp n P (.ret x) st ↔ wp Xp (leave n x) st P := Iff.rfl

/-! ### loops -/
/-- a comprehension by an invariant of what is made so far -/
theorem lc_inv {turn : PyData → M (Option PyData)} {R : List PyData → Store → Prop} {xs : List PyData} (I : Nat → List PyData → Store → Prop) (h0 : I 0 [] st) (hl : xs.length ≤ LIM) (hi : ∀ n acc s, I n acc s → acc.length ≤ n)
    (ht : ∀ n x acc s, xs[n]? = some x → I n acc s → wp Xp (turn x) s fun o s' => match o with
      | some y => I (n + 1) (acc ++ [y]) s'
      | none => I (n + 1) acc s') (hd : ∀ acc s, I xs.length acc s → R acc s) : wp Xp (lcGo turn xs []) st R := by
  have key : ∀ (r : List PyData) (n : Nat) (acc : List PyData) (s : Store), n + r.length = xs.length → (∀ i x, r[i]? = some x → xs[n + i]? = some x) → I n acc s → wp Xp (lcGo turn r acc) s R := by
    intro r
    induction r with
    | nil =>
      intro n acc s hn _ h
      rw [List.length_nil, Nat.add_zero] at hn
      subst hn
      exact hd _ _ h
    | cons x r ih =>
      intro n acc s hn hx h
      rw [List.length_cons] at hn
      rw [lcGo, wp_bind]
      refine wp_mono (ht n x acc s (by simpa using hx 0 x rfl) h) fun o s' h' => ?_
      have hx' : ∀ i y, r[i]? = some y → xs[n + 1 + i]? = some y := fun i y e => by
        have := hx (i + 1) y (by simpa using e)
        rwa [show n + (i + 1) = n + 1 + i by omega] at this
      cases o with
      | none => exact ih (n + 1) acc s' (by omega) hx' h'
      | some y =>
        show wp Xp (guardB _ >>= _) s' R
        rw [wp_bind]
        have := hi _ _ _ h
        exact wp_guard.mpr ⟨decide_eq_true (by omega), ih (n + 1) _ s' (by omega) hx' h'⟩
  exact key xs 0 [] st (by simp) (fun i x e => by simpa using e) h0
end
end
/-! ### operators at values -/
section
variable {a b : Int}
theorem o_addI : bopV .add (.int a) (.int b) = some (.dat (.int (a + b))) := rfl
theorem o_subI : bopV .sub (.int a) (.int b) = some (.dat (.int (a - b))) := rfl
theorem o_mulI (h : a.natAbs.log2 + b.natAbs.log2 < 1000000) : bopV .mul (.int a) (.int b) = some (.dat (.int (a * b))) := if_pos h
theorem o_fdivI (h : 0 < b) (h2 : b.natAbs.log2 < 9000) : bopV .fdiv (.int a) (.int b) = some (.dat (.int (a / b))) := if_pos ⟨h, h2⟩
theorem o_modI (h : 0 < b) : bopV .mod (.int a) (.int b) = some (.dat (.int (a % b))) := if_pos h
theorem o_addT {x y : List PyData} (h : x.length + y.length ≤ 1000000) : bopV .add (.tuple x) (.tuple y) = some (.dat (.tuple (x ++ y))) := if_pos (by rw [LIM]; omega)
theorem o_addL {x y : List PyData} (h : x.length + y.length ≤ 1000000) : bopV .add (.list x) (.list y) = some (.newL (x ++ y)) := if_pos (by rw [LIM]; omega)
theorem o_ltI : copV .lt (.int a) (.int b) = some (decide (a < b)) := rfl
theorem o_leI : copV .le (.int a) (.int b) = some (decide (a ≤ b)) := rfl
theorem o_gtI : copV .gt (.int a) (.int b) = some (decide (b < a)) := rfl
theorem o_geI : copV .ge (.int a) (.int b) = some (decide (b ≤ a)) := rfl
theorem beqD {α : Type} [BEq α] [LawfulBEq α] [DecidableEq α] {a b : α} : (a == b) = decide (a = b) := by
  by_cases h : a = b <;> simp [h]
theorem eqv_int : PyData.eqv (.int a) (.int b) = decide (a = b) := by simp only [PyData.eqv]; exact beqD
theorem o_eqI : copV .eq (.int a) (.int b) = some (decide (a = b)) := by simp [copV, cmpE, shal, eqv_int]
theorem o_neI : copV .ne (.int a) (.int b) = some (!decide (a = b)) := by simp [copV, cmpE, shal, eqv_int]
theorem o_isN {x : PyData} : copV .isN x .none = some (isNone x) := by cases x <;> rfl
theorem o_notN {x : PyData} : copV .notN x .none = some (!isNone x) := by cases x <;> rfl
theorem o_isB {a b : Bool} : copV .isN (.bool a) (.bool b) = some (decide (a = b)) := rfl
theorem o_notB {a b : Bool} : copV .notN (.bool a) (.bool b) = some (!decide (a = b)) := rfl
theorem o_eqB {a b : Bool} : copV .eq (.bool a) (.bool b) = some (a == b) := by cases a <;> cases b <;> rfl
theorem o_neB {a b : Bool} : copV .ne (.bool a) (.bool b) = some (!(a == b)) := by cases a <;> cases b <;> rfl
theorem o_eqS {a b : Str} : copV .eq (.str a) (.str b) = some (decide (a = b)) := by simp [copV, cmpE, shal, PyData.eqv, beqD]
theorem o_neS {a b : Str} : copV .ne (.str a) (.str b) = some (!decide (a = b)) := by simp [copV, cmpE, shal, PyData.eqv, beqD]
theorem o_lenL {x : List PyData} : biV .len [.list x] = some (.dat (.int x.length)) := rfl
theorem o_lenT {x : List PyData} : biV .len [.tuple x] = some (.dat (.int x.length)) := rfl
theorem o_abs : biV .abs [.int a] = some (.dat (.int a.natAbs)) := by
  show some (D.dat (.int (if a < 0 then -a else a))) = _
  congr 3
  split <;> omega
theorem o_tupL {x : List PyData} : biV .tuple [.list x] = some (.dat (.tuple x)) := rfl
theorem o_tupT {x : List PyData} : biV .tuple [.tuple x] = some (.dat (.tuple x)) := rfl
theorem o_lisL {x : List PyData} : biV .list [.list x] = some (.newL x) := rfl
theorem o_lisT {x : List PyData} : biV .list [.tuple x] = some (.newL x) := rfl
theorem o_intI : biV .int [.int a] = some (.dat (.int a)) := rfl
theorem o_intB {b : Bool} : biV .int [.bool b] = some (.dat (.int (if b then 1 else 0))) := rfl
theorem truths_bools : ∀ {x : List PyData} {bs : List Bool}, allBools x = some bs → truths x = some bs
  | [], bs, h => by rw [allBools] at h; rw [truths]; exact h
  | x :: xs, bs, h => by
    cases x <;> first | (unfold allBools at h; cases h; done) | skip
    rename_i b
    rw [allBools, Option.map_eq_some_iff] at h
    obtain ⟨cs, h1, rfl⟩ := h
    rw [truths, truths_bools h1]
    rfl
theorem truths_ints : ∀ (ns : List Int), truths (ns.map .int) = some (ns.map (· != 0))
  | [] => rfl
  | n :: ns => by rw [List.map_cons, truths, truths_ints ns]; rfl
theorem o_all {x : List PyData} {bs : List Bool} (h : allBools x = some bs) : biV .all [.list x] = some (.dat (.bool (bs.all id))) := by show (truths x).map _ = _; rw [truths_bools h]; rfl
theorem o_any {x : List PyData} {bs : List Bool} (h : allBools x = some bs) : biV .any [.list x] = some (.dat (.bool (bs.any id))) := by show (truths x).map _ = _; rw [truths_bools h]; rfl
theorem o_anyT {ns : List Int} : biV .any [.tuple (ns.map .int)] = some (.dat (.bool (ns.any (· != 0)))) := by show (truths _).map _ = _; rw [truths_ints]; simp [List.any_map, Function.comp_def]
theorem o_sum {x : List PyData} {bs : List Int} (h : allInts x = some bs) : biV .sum [.list x] = some (.dat (.int bs.sum)) := by show (allInts x).map _ = _; rw [h]; rfl
theorem allInts_map : ∀ (xs : List Int), allInts (xs.map .int) = some xs
  | [] => rfl
  | x :: xs => by rw [List.map_cons, allInts, allInts_map xs]; rfl
theorem allBools_map : ∀ (xs : List Bool), allBools (xs.map .bool) = some xs
  | [] => rfl
  | x :: xs => by rw [List.map_cons, allBools, allBools_map xs]; rfl
end
section
variable {α : Type} {xs : List α} {k : Int}
theorem cut_hi (h : 0 ≤ k) : cut xs none (some k) = xs.take k.toNat := by
  show (xs.drop 0).take ((if k < 0 then (k + (xs.length : Int)).toNat else min k.toNat xs.length) - 0) = _
  rw [if_neg (by omega), List.drop_zero, Nat.sub_zero]
  by_cases l : k.toNat ≤ xs.length
  · rw [Nat.min_eq_left l]
  · rw [Nat.min_eq_right (by omega), List.take_of_length_le (Nat.le_refl _), List.take_of_length_le (by omega)]
theorem cut_lo (h : 0 ≤ k) : cut xs (some k) none = xs.drop k.toNat := by
  show (xs.drop (if k < 0 then (k + (xs.length : Int)).toNat else min k.toNat xs.length)).take (xs.length - (if k < 0 then (k + (xs.length : Int)).toNat else min k.toNat xs.length)) = _
  rw [if_neg (by omega), List.take_of_length_le (by rw [List.length_drop]; omega)]
  by_cases l : k.toNat ≤ xs.length
  · rw [Nat.min_eq_left l]
  · rw [Nat.min_eq_right (by omega), List.drop_of_length_le (Nat.le_refl _), List.drop_of_length_le (by omega)]
theorem cut_last : cut xs none (some (-1)) = xs.dropLast := by
  show (xs.drop 0).take ((if (-1 : Int) < 0 then ((-1 : Int) + (xs.length : Int)).toNat else min (-1 : Int).toNat xs.length) - 0) = _
  rw [if_pos (by decide), List.drop_zero, Nat.sub_zero, List.dropLast_eq_take]
  congr 1
  omega
theorem take_self {st : Store} : st.take st.length = st := List.take_of_length_le (Nat.le_refl _)
theorem take_set {st : Store} {i : Nat} {c : Cell} : (st.set i c).take st.length = st.set i c := List.take_of_length_le (by rw [List.length_set]; exact Nat.le_refl _)
theorem get_set {st : Store} {i : Nat} {c : Cell} (h : i < st.length) : (st.set i c)[i]? = some c := List.getElem?_set_self h
theorem set_set' {st : Store} {i : Nat} {c d : Cell} : (st.set i c).set i d = st.set i d := List.set_set ..
end
section
variable {x y z u : PyData} {xs : List PyData}
theorem ixPl_of {n : Nat} {k : Int} (h : 0 ≤ k) (h2 : k < n) : ixPl n k = some k.toNat := by
  unfold ixPl
  rw [if_pos h, if_pos h2]
theorem o_ix {k : Int} (h : 0 ≤ k) (h2 : k < xs.length) : idxV (.list xs) (.int k) = xs[k.toNat]? := by
  show (ixPl xs.length k).bind _ = _
  rw [ixPl_of h h2]; rfl
theorem o_ixt {k : Int} (h : 0 ≤ k) (h2 : k < xs.length) : idxV (.tuple xs) (.int k) = xs[k.toNat]? := o_ix h h2
theorem o_ix0 : idxV (.list (x :: xs)) (.int 0) = some x := by rw [o_ix (by decide) (by rw [List.length_cons]; omega)]; rfl
theorem o_ix1 : idxV (.list (x :: y :: xs)) (.int 1) = some y := by rw [o_ix (by decide) (by simp only [List.length_cons]; omega)]; rfl
theorem o_ix2 : idxV (.list (x :: y :: z :: xs)) (.int 2) = some z := by rw [o_ix (by decide) (by simp only [List.length_cons]; omega)]; rfl
theorem o_ix3 : idxV (.list (x :: y :: z :: u :: xs)) (.int 3) = some u := by rw [o_ix (by decide) (by simp only [List.length_cons]; omega)]; rfl
theorem o_it0 : idxV (.tuple (x :: xs)) (.int 0) = some x := o_ix0
theorem o_it1 : idxV (.tuple (x :: y :: xs)) (.int 1) = some y := o_ix1
theorem o_it2 : idxV (.tuple (x :: y :: z :: xs)) (.int 2) = some z := o_ix2
theorem o_it3 : idxV (.tuple (x :: y :: z :: u :: xs)) (.int 3) = some u := o_ix3
theorem log2_small {a : Int} {n : Nat} (h : a.natAbs < 2 ^ (n + 1)) : a.natAbs.log2 ≤ n := by
  by_cases h0 : a.natAbs = 0
  · rw [h0]; exact Nat.zero_le _
  · exact Nat.lt_succ_iff.mp ((Nat.log2_lt h0).mpr h)
theorem o_mul {a b : Int} (h1 : -(2 ^ 200) < a) (h2 : a < 2 ^ 200) (h3 : -(2 ^ 200) < b) (h4 : b < 2 ^ 200) : bopV .mul (.int a) (.int b) = some (.dat (.int (a * b))) := by
  refine o_mulI ?_
  have e1 := log2_small (a := a) (n := 199) (by omega)
  have e2 := log2_small (a := b) (n := 199) (by omega)
  omega
theorem o_fdiv {a b : Int} (h1 : 0 < b) (h4 : b < 2 ^ 200) : bopV .fdiv (.int a) (.int b) = some (.dat (.int (a / b))) := by
  refine o_fdivI h1 ?_
  have e2 := log2_small (a := b) (n := 199) (by omega)
  omega
theorem o_pow {a b : Int} (h1 : 0 ≤ b) (h2 : b ≤ 1000000) (h3 : -(2 ^ 60) < a) (h4 : a < 2 ^ 60) : bopV .pow (.int a) (.int b) = some (.dat (.int (a ^ b.toNat))) := if_pos ⟨h1, h2, by omega⟩
theorem o_get {ds : List Int} {k : Int} (h : 0 ≤ k) (h2 : k < ds.length) : idxV (.list (ds.map .int)) (.int k) = some (.int (ds.getD k.toNat 0)) := by
  rw [o_ix h (by rw [List.length_map]; exact h2), List.getElem?_map]
  have hl : k.toNat < ds.length := by omega
  rw [List.getElem?_eq_getElem hl, List.getD_eq_getElem?_getD, List.getElem?_eq_getElem hl]
  rfl
end
theorem lim_lt {n : Nat} (h : n ≤ 1000000) : (n < LIM) = True := eq_true (by rw [LIM]; omega)
theorem lim_of {n : Nat} (h : n ≤ 1000000) : (n ≤ LIM) = True := eq_true (by rw [LIM]; omega)
theorem eqvAll_ints : ∀ (a b : List Int), PyData.eqvAll (a.map .int) (b.map .int) = decide (a = b)
  | [], [] => rfl
  | [], _ :: _ => rfl
  | _ :: _, [] => rfl
  | x :: a, y :: b => by
    rw [List.map_cons, List.map_cons, PyData.eqvAll, eqvAll_ints a b, eqv_int]
    by_cases h : x = y <;> by_cases h2 : a = b <;> simp [h, h2]
theorem shalAll_ints (n : Nat) : ∀ (a : List Int), shalAll n (a.map .int) = true
  | [] => rfl
  | x :: a => by rw [List.map_cons, shalAll, shalAll_ints n a]; cases n <;> rfl
theorem ints_eq : ∀ (n : Nat) (lo : Int), rngL lo n = ((List.range n).map fun k : Nat => lo + (k : Int)).map .int
  | 0, _ => rfl
  | n + 1, lo => by
    have e : (List.range n).map (fun k : Nat => lo + 1 + (k : Int)) = (List.range n).map (fun k : Nat => lo + ((k + 1 : Nat) : Int)) :=
      List.map_congr_left fun k _ => by omega
    rw [rngL, ints_eq n (lo + 1), e, List.range_succ_eq_map, List.map_cons, List.map_cons, List.map_map]
    rw [show lo + ((0 : Nat) : Int) = lo by omega, List.map_map, List.map_map]
    rfl
end MP
end MW

section MW2
set_option Elab.async false
set_option linter.all false
set_option maxRecDepth 100000
set_option autoImplicit false
set_option maxHeartbeats 4000000
/-! MW2: walks without names: what is left of a block, of a loop, of a comprehension stands as a term of its own. -/
namespace MP
open PySem
section
variable {Xp : Exc → Store → Prop} {C : Ctx} {ρ : Env} {st s : Store} {P K : Out → Store → Prop}
/-- what is left of a block -/
def Rst (Xp : Exc → Store → Prop) (C : Ctx) (r : Sts) (P : Out → Store → Prop) : Out → Store → Prop
  | .next ρ, s => wp Xp (evSts C r ρ) s P
  | o, s => P o s
theorem wp_blk {a : St} {r : Sts} : wp Xp (evSts C (.cons a r) ρ) st P ↔ wp Xp (evSt C a ρ) st (Rst Xp C r P) := by
  rw [evSts, wp_bind]
  constructor <;> intro h <;> refine wp_mono h fun o s h => ?_
  · cases o <;> exact h
  · cases o <;> exact h
theorem rst_ret {r : Sts} {d : D} : Rst Xp C r P (.ret d) s ↔ P (.ret d) s := Iff.rfl
theorem rst_brk {r : Sts} : Rst Xp C r P (.brk ρ) s ↔ P (.brk ρ) s := Iff.rfl
theorem rst_cnt {r : Sts} : Rst Xp C r P (.cnt ρ) s ↔ P (.cnt ρ) s := Iff.rfl
theorem rst_nil : Rst Xp C .nil P (.next ρ) s ↔ P (.next ρ) s := by
  show wp Xp (evSts C .nil ρ) s P ↔ _
  rw [evSts]
  exact Iff.rfl
theorem rst_cons {a : St} {r : Sts} : Rst Xp C (.cons a r) P (.next ρ) s ↔ wp Xp (evSt C a ρ) s (Rst Xp C r P) := wp_blk
theorem ends_next {n : Nat} {Q : D → Store → Prop} : Ends Xp n Q (.next ρ) s ↔ wp Xp (leave n (.dat .none)) s Q := Iff.rfl
theorem w_par2 {i j : Nat} {a b : Ex} : wp Xp (evSt C (.par i j (.cons a (.cons b .nil))) ρ) st K ↔ wp Xp (evE C a ρ) st fun x s => wp Xp (evE C b ρ) s fun y s => K (.next ((ρ.set i (some (keep x))).set j (some (keep y)))) s := by
  rw [w_par]
  simp only [w_as, w_asN]
  constructor <;> intro h <;> refine wp_mono h fun x s h => wp_mono h fun y s h => ?_
  · obtain ⟨u, v, e, h⟩ := h
    cases e
    exact h
  · exact ⟨_, _, rfl, h⟩
theorem w_par33 {i j l : Nat} {a b c : Ex} : wp Xp (evSt C (.par3 i j l (.cons a (.cons b (.cons c .nil)))) ρ) st K ↔ wp Xp (evE C a ρ) st fun x s => wp Xp (evE C b ρ) s fun y s => wp Xp (evE C c ρ) s fun z s => K (.next (((ρ.set i (some (keep x))).set j (some (keep y))).set l (some (keep z)))) s := by
  rw [evSt, wp_bind]
  simp only [w_as, w_asN]
  constructor <;> intro h <;> exact wp_mono h fun x s h => wp_mono h fun y s h => wp_mono h fun z s h => h
/-! ### for -/
/-- a turn's end -/
def Trn (I : Env → Store → Prop) (K : Out → Store → Prop) : Out → Store → Prop
  | .next ρ, s => I ρ s
  | .cnt ρ, s => I ρ s
  | .brk ρ, s => K (.next ρ) s
  | .ret d, s => K (.ret d) s
theorem trn_brk {I : Env → Store → Prop} : Trn I K (.brk ρ) s ↔ K (.next ρ) s := Iff.rfl
theorem trn_ret {I : Env → Store → Prop} {d : D} : Trn I K (.ret d) s ↔ K (.ret d) s := Iff.rfl
theorem trn_cnt {I : Env → Store → Prop} : Trn I K (.cnt ρ) s ↔ Trn I K (.next ρ) s := Iff.rfl
/-- a for over what is known -/
def ForK (Xp : Exc → Store → Prop) (C : Ctx) (t : Tg) (body : Sts) (xs : List PyData) (ρ : Env) (s : Store) (K : Out → Store → Prop) : Prop := wp Xp (forGo (fun x ρ' => do
    let ρ2 ← noX (evTg C t (.dat x) ρ')
    evSts C body ρ2) xs ρ) s K
theorem w_for {t : Tg} {it : It} {body : Sts} : wp Xp (evSt C (.for_ t it body) ρ) st K ↔ wp Xp (evIt C it ρ) st fun xs s => ForK Xp C t body xs ρ s K := by
  rw [evSt, wp_bind]
  exact Iff.rfl
theorem fork_cons {t : Tg} {body : Sts} {x : PyData} {xs : List PyData} : ForK Xp C t body (x :: xs) ρ s K ↔ wp NoX (evTg C t (.dat x) ρ) s fun ρ2 s2 => wp Xp (evSts C body ρ2) s2 (Trn (fun ρ3 s3 => ForK Xp C t body xs ρ3 s3 K) K) := by
  unfold ForK
  rw [forGo, wp_bind, wp_bind, wp_noX]
  constructor <;> intro h <;> refine wp_mono h fun ρ2 s2 h2 => wp_mono h2 fun o s3 h3 => ?_ <;> cases o <;> exact h3
/-- a for by an invariant; items are told by an encoding -/
theorem for_by {α : Type} {t : Tg} {body : Sts} {e : α → PyData} {l : List α} (I : Nat → Env → Store → Prop) (h0 : I 0 ρ s)
    (ht : ∀ (n : Nat) (x : α) (ρ1 : Env) (s1 : Store), l[n]? = some x → I n ρ1 s1 → wp NoX (evTg C t (.dat (e x)) ρ1) s1 fun ρ2 s2 => wp Xp (evSts C body ρ2) s2 (Trn (I (n + 1)) K))
    (hd : ∀ ρ1 s1, I l.length ρ1 s1 → K (.next ρ1) s1) : ForK Xp C t body (l.map e) ρ s K := by
  have key : ∀ (r : List α) (n : Nat) (ρ1 : Env) (s1 : Store), n + r.length = l.length → (∀ i x, r[i]? = some x → l[n + i]? = some x) → I n ρ1 s1 → ForK Xp C t body (r.map e) ρ1 s1 K := by
    intro r
    induction r with
    | nil =>
      intro n ρ1 s1 hn _ h
      rw [List.length_nil, Nat.add_zero] at hn
      subst hn
      exact hd _ _ h
    | cons x r ih =>
      intro n ρ1 s1 hn hx h
      rw [List.length_cons] at hn
      have hx' : ∀ i y, r[i]? = some y → l[n + 1 + i]? = some y := fun i y e => by
        have := hx (i + 1) y (by simpa using e)
        rwa [show n + (i + 1) = n + 1 + i by omega] at this
      rw [List.map_cons, fork_cons]
      refine wp_mono (ht n x ρ1 s1 (by simpa using hx 0 x rfl) h) fun ρ2 s2 h2 => wp_mono h2 fun o s3 h3 => ?_
      cases o with
      | next ρ3 => exact ih (n + 1) ρ3 s3 (by omega) hx' h3
      | cnt ρ3 => exact ih (n + 1) ρ3 s3 (by omega) hx' h3
      | brk ρ3 => exact h3
      | ret d => exact h3
  exact key l 0 ρ s (by simp) (fun i x e => by simpa using e) h0
/-- a for over range(n) -/
theorem for_rng {t : Tg} {body : Sts} {m : Nat} (I : Nat → Env → Store → Prop) (h0 : I 0 ρ s)
    (ht : ∀ (n : Nat) (ρ1 : Env) (s1 : Store), n < m → I n ρ1 s1 → wp NoX (evTg C t (.dat (.int n)) ρ1) s1 fun ρ2 s2 => wp Xp (evSts C body ρ2) s2 (Trn (I (n + 1)) K))
    (hd : ∀ ρ1 s1, I m ρ1 s1 → K (.next ρ1) s1) : ForK Xp C t body ((List.range m).map fun k : Nat => .int k) ρ s K := by
  refine for_by (e := fun k : Nat => .int k) I h0 (fun n x ρ1 s1 hx h => ?_) (by rw [List.length_range]; exact hd)
  obtain ⟨hl, e⟩ := List.getElem?_eq_some_iff.mp hx
  rw [List.length_range] at hl
  rw [List.getElem_range] at e
  subst e
  exact ht n ρ1 s1 hl h
/-! ### a live list -/
def LvK (Xp : Exc → Store → Prop) (C : Ctx) (t : Tg) (body : Sts) (i n k : Nat) (ρ : Env) (s : Store) (K : Out → Store → Prop) : Prop := wp Xp (liveGo (fun x ρ' => do
    let ρ2 ← noX (evTg C t (.dat x) ρ')
    evSts C body ρ2) i n k ρ) s K
def EnK (Xp : Exc → Store → Prop) (C : Ctx) (t : Tg) (body : Sts) (n : Nat) (d : D) (ρ : Env) (s : Store) (K : Out → Store → Prop) : Prop := wp Xp (enumGo (fun x ρ' => do
    let ρ2 ← noX (evTg C t (.dat x) ρ')
    evSts C body ρ2) n d ρ) s K
theorem w_forE {t : Tg} {e : Ex} {body : Sts} : wp Xp (evSt C (.forE t e body) ρ) st K ↔ wp Xp (evE C e ρ) st fun x s => EnK Xp C t body C.fuel (keep x) ρ s K := by
  rw [evSt, wp_bind]
  exact Iff.rfl
theorem en_ref {t : Tg} {body : Sts} {n i : Nat} : EnK Xp C t body n (.ref i) ρ s K ↔ LvK Xp C t body i n 0 ρ s K := Iff.rfl
theorem en_lst {t : Tg} {body : Sts} {n : Nat} {xs : List PyData} : EnK Xp C t body n (.dat (.list xs)) ρ s K ↔ ForK Xp C t body (enumL xs 0) ρ s K := Iff.rfl
theorem en_tup {t : Tg} {body : Sts} {n : Nat} {xs : List PyData} : EnK Xp C t body n (.dat (.tuple xs)) ρ s K ↔ ForK Xp C t body (enumL xs 0) ρ s K := Iff.rfl
theorem z_ll {x y : List PyData} : zipD [.dat (.list x), .dat (.list y)] = some (zipL x y) := rfl
theorem z_tt {x y : List PyData} : zipD [.dat (.tuple x), .dat (.tuple y)] = some (zipL x y) := rfl
theorem z_lt {x y : List PyData} : zipD [.dat (.list x), .dat (.tuple y)] = some (zipL x y) := rfl
theorem z_tl {x y : List PyData} : zipD [.dat (.tuple x), .dat (.list y)] = some (zipL x y) := rfl
theorem z_ttt {x y z : List PyData} : zipD3 [.dat (.tuple x), .dat (.tuple y), .dat (.tuple z)] = some (zip3L x y z) := rfl
/-! ### while -/
def WhK (Xp : Exc → Store → Prop) (C : Ctx) (c : Ex) (body : Sts) (n : Nat) (ρ : Env) (s : Store) (K : Out → Store → Prop) : Prop := wp Xp (whileGo (fun ρ' => do
      let x ← evE C c ρ'
      asBool x) (fun ρ' => evSts C body ρ') n ρ) s K
theorem w_while {c : Ex} {body : Sts} : wp Xp (evSt C (.while_ c body) ρ) st K ↔ WhK Xp C c body C.fuel ρ st K := by rw [evSt]; exact Iff.rfl
theorem while_by {c : Ex} {body : Sts} (I : Nat → Env → Store → Prop) (m : Nat) {fuel : Nat} (hm : m < fuel) (h0 : I m ρ st)
    (ht : ∀ n ρ1 s1, I n ρ1 s1 → wp Xp (evE C c ρ1) s1 fun x s2 => wp Xp (asBool x) s2 fun k s3 => (k = true → wp Xp (evSts C body ρ1) s3 (Trn (fun ρ3 s4 => ∃ n', n' < n ∧ I n' ρ3 s4) K)) ∧ (k = false → K (.next ρ1) s3)) : WhK Xp C c body fuel ρ st K := by
  have key : ∀ (fuel n : Nat) (ρ1 : Env) (s1 : Store), n < fuel → I n ρ1 s1 → WhK Xp C c body fuel ρ1 s1 K := by
    intro fuel
    induction fuel with
    | zero => intro n ρ1 s1 hn; omega
    | succ fuel ih =>
      intro n ρ1 s1 hn h
      unfold WhK
      rw [whileGo, wp_bind, wp_bind]
      refine wp_mono (ht n ρ1 s1 h) fun x s2 h2 => wp_mono h2 fun k s3 ⟨h3, h4⟩ => ?_
      cases k with
      | false => exact h4 rfl
      | true =>
        show wp Xp (evSts C body ρ1 >>= _) s3 K
        rw [wp_bind]
        refine wp_mono (h3 rfl) fun o s4 h5 => ?_
        cases o with
        | next ρ3 =>
          obtain ⟨n', l, h6⟩ := h5
          exact ih n' ρ3 s4 (by omega) h6
        | cnt ρ3 =>
          obtain ⟨n', l, h6⟩ := h5
          exact ih n' ρ3 s4 (by omega) h6
        | brk ρ3 => exact h5
        | ret d => exact h5
  exact key fuel m ρ st hm h0
/-! ### comprehensions -/
def turnM (C : Ctx) (elt : Ex) (tg : Tg) (ifs : Opt) (ρ : Env) (x : PyData) : M (Option PyData) := do
  let ρ' ← evTg C tg (.dat x) ρ
  let k ← evIf C ifs ρ'
  match k with
  | true => do
    let y ← evE C elt ρ'
    let z ← settle y
    pure (some z)
  | false => pure none
def LcK (Xp : Exc → Store → Prop) (C : Ctx) (elt : Ex) (tg : Tg) (ifs : Opt) (ρ : Env) (xs : List PyData) (s : Store) (R : List PyData → Store → Prop) : Prop := wp Xp (lcGo (fun x => noX (turnM C elt tg ifs ρ x)) xs []) s R
theorem w_lc {elt : Ex} {tg : Tg} {it : It} {ifs : Opt} {own : List (Str × Nat)} {R : D → Store → Prop} : wp Xp (evE C (.comp elt tg it ifs own) ρ) st R ↔ wp Xp (evIt C it ρ) st fun xs s => LcK Xp C elt tg ifs (wipeE ρ (own.map (·.2))) xs s fun ys s => R (.newL ys) s := by
  rw [w_comp] <;> exact Iff.rfl
/-- what a turn must show -/
def TrnK (C : Ctx) (elt : Ex) (tg : Tg) (ifs : Opt) (ρ : Env) (x : PyData) (s : Store) (R : Option PyData → Store → Prop) : Prop :=
  wp NoX (evTg C tg (.dat x) ρ) s fun ρ' s => wp NoX (evIf C ifs ρ') s fun k s => (k = true → wp NoX (evE C elt ρ') s fun y s => wp NoX (settle y) s fun z s => R (some z) s) ∧ (k = false → R none s)
theorem turn_of {elt : Ex} {tg : Tg} {ifs : Opt} {x : PyData} {R : Option PyData → Store → Prop} (h : TrnK C elt tg ifs ρ x s R) : wp Xp (noX (turnM C elt tg ifs ρ x)) s R := by
  rw [wp_noX]
  unfold turnM
  simp only [wp_bind]
  refine wp_mono h fun ρ' s h => wp_mono h fun k s ⟨h1, h2⟩ => ?_
  cases k with
  | true =>
    simp only [wp_bind]
    exact h1 rfl
  | false => exact h2 rfl
/-- every item gives one -/
theorem lc_map {α : Type} {elt : Ex} {tg : Tg} {e g : α → PyData} {l : List α} {R : List PyData → Store → Prop} (hl : l.length ≤ 1000000)
    (ht : ∀ x ∈ l, ∀ R : Option PyData → Store → Prop, R (some (g x)) s → TrnK C elt tg .none ρ (e x) s R) (h : R (l.map g) s) : LcK Xp C elt tg .none ρ (l.map e) s R := by
  have key : ∀ (xs : List α) (acc : List PyData), (∀ x ∈ xs, x ∈ l) → acc.length + xs.length ≤ LIM → R (acc ++ xs.map g) s → wp Xp (lcGo (fun x => noX (turnM C elt tg .none ρ x)) (xs.map e) acc) s R := by
    intro xs
    induction xs with
    | nil => intro acc _ _ h; simpa [lcGo, w_pure] using h
    | cons x xs ih =>
      intro acc hm hl h
      rw [List.map_cons, lcGo, wp_bind]
      rw [List.length_cons] at hl
      refine turn_of (ht x (hm x (List.mem_cons_self ..)) _ ?_)
      show wp Xp (guardB _ >>= _) s R
      rw [wp_bind]
      refine wp_guard.mpr ⟨decide_eq_true (by omega), ih _ (fun y hy => hm y (List.mem_cons_of_mem _ hy)) (by rw [List.length_append, List.length_singleton]; omega) (by rw [List.append_assoc]; exact h)⟩
  exact key l [] (fun _ h => h) (by rw [List.length_nil, LIM]; omega) h
/-- items that pass a test give one -/
theorem lc_flt {α : Type} {elt : Ex} {tg : Tg} {ifs : Opt} {e g : α → PyData} {p : α → Bool} {l : List α} {R : List PyData → Store → Prop} (hl : l.length ≤ 1000000)
    (ht : ∀ x ∈ l, ∀ R : Option PyData → Store → Prop, (p x = true → R (some (g x)) s) → (p x = false → R none s) → TrnK C elt tg ifs ρ (e x) s R) (h : R ((l.filter p).map g) s) : LcK Xp C elt tg ifs ρ (l.map e) s R := by
  have key : ∀ (xs : List α) (acc : List PyData), (∀ x ∈ xs, x ∈ l) → acc.length + xs.length ≤ LIM → R (acc ++ (xs.filter p).map g) s → wp Xp (lcGo (fun x => noX (turnM C elt tg ifs ρ x)) (xs.map e) acc) s R := by
    intro xs
    induction xs with
    | nil => intro acc _ _ h; simpa [lcGo, w_pure] using h
    | cons x xs ih =>
      intro acc hm hl h
      rw [List.map_cons, lcGo, wp_bind]
      rw [List.length_cons] at hl
      refine turn_of (ht x (hm x (List.mem_cons_self ..)) _ (fun hp => ?_) fun hp => ?_)
      · show wp Xp (guardB _ >>= _) s R
        rw [wp_bind]
        rw [List.filter_cons_of_pos hp] at h
        refine wp_guard.mpr ⟨decide_eq_true (by omega), ih _ (fun y hy => hm y (List.mem_cons_of_mem _ hy)) (by rw [List.length_append, List.length_singleton]; omega) (by rw [List.append_assoc]; exact h)⟩
      · rw [List.filter_cons_of_neg (by rw [hp]; decide)] at h
        exact ih _ (fun y hy => hm y (List.mem_cons_of_mem _ hy)) (by omega) h
  exact key l [] (fun _ h => h) (by rw [List.length_nil, LIM]; omega) h
/-- a turn's end in a comprehension -/
def TrnL (I : List PyData → Store → Prop) (acc : List PyData) : Option PyData → Store → Prop
  | some y, s => I (acc ++ [y]) s
  | none, s => I acc s
/-- turns that change the store: by an invariant of what is made so far -/
theorem lc_by {α : Type} {elt : Ex} {tg : Tg} {ifs : Opt} {e : α → PyData} {l : List α} {R : List PyData → Store → Prop} (I : Nat → List PyData → Store → Prop) (h0 : I 0 [] s) (hl : l.length ≤ 1000000) (hi : ∀ n acc s, I n acc s → acc.length ≤ n)
    (ht : ∀ (n : Nat) (x : α) (acc : List PyData) (s : Store), l[n]? = some x → I n acc s → TrnK C elt tg ifs ρ (e x) s (TrnL (I (n + 1)) acc)) (hd : ∀ acc s, I l.length acc s → R acc s) : LcK Xp C elt tg ifs ρ (l.map e) s R := by
  refine lc_inv I h0 (by rw [List.length_map, LIM]; omega) hi (fun n x acc s' hx h => ?_) (fun acc s' h => hd acc s' (by rwa [List.length_map] at h))
  rw [List.getElem?_map, Option.map_eq_some_iff] at hx
  obtain ⟨y, hy, rfl⟩ := hx
  refine wp_mono (turn_of (ht n y acc s' hy h)) fun o s2 h2 => ?_
  cases o <;> exact h2
end
/-! ### dicts, ranges, extend -/
def revV : PyData → Option D
  | .list xs => some (.newL xs.reverse)
  | .tuple xs => some (.dat (.tuple xs.reverse))
  | _ => none
theorem revV_L {xs : List PyData} : revV (.list xs) = some (.newL xs.reverse) := rfl
theorem revV_T {xs : List PyData} : revV (.tuple xs) = some (.dat (.tuple xs.reverse)) := rfl
section
variable {Xp : Exc → Store → Prop} {C : Ctx} {ρ : Env} {st : Store} {P : D → Store → Prop}
theorem w_lookD {i : Nat} {R : Bool × List (PyData × PyData) → Store → Prop} : wp Xp (lookDict (.ref i)) st R ↔ ∃ t kvs, st[i]? = some (.dct t kvs) ∧ R (t, kvs) st := wp_lookDR
theorem w_lookDN {t : Bool} {kvs : List (PyData × PyData)} {R : Bool × List (PyData × PyData) → Store → Prop} : wp Xp (lookDict (.newD t kvs)) st R ↔ R (t, kvs) st := Iff.rfl
theorem w_lookNN {xs : List PyData} {R : List PyData → Store → Prop} : wp Xp (lookN (.newL xs)) st R ↔ R xs st := Iff.rfl
theorem w_lookNR {i : Nat} {R : List PyData → Store → Prop} : wp Xp (lookN (.ref i)) st R ↔ ∃ xs, st[i]? = some (.lst xs) ∧ R xs st := wp_cellAt
theorem w_isinD {ng : Bool} {a b : Ex} : wp Xp (evE C (.isinD ng a b) ρ) st P ↔ wp Xp (evE C a ρ) st fun x s => wp Xp (evE C b ρ) s fun y s => wp Xp (look x) s fun u s => wp Xp (lookDict y) s fun d s => keyOk d.1 u = true ∧ P (.dat (.bool (if ng then !(dGet d.2 u).isSome else (dGet d.2 u).isSome))) s := by
  rw [evE]
  simp only [wp_bind, wp_guard, wp_pure]
theorem w_idxD {a b : Ex} : wp Xp (evE C (.idxD a b) ρ) st P ↔ wp Xp (evE C a ρ) st fun x s => wp Xp (evE C b ρ) s fun y s => wp Xp (lookDict x) s fun d s => wp Xp (look y) s fun v s => keyOk d.1 v = true ∧ ∃ r, dGet d.2 v = some r ∧ P (.dat r) s := by
  rw [evE]
  simp only [wp_bind, wp_guard, wp_ofO, wp_pure]
theorem w_rgv {tp : Bool} {lo : Opt} {hi : Ex} : wp Xp (evE C (.rgv tp lo hi) ρ) st P ↔ wp Xp (evO C lo ρ) st fun l s => wp Xp (evE C hi ρ) s fun y s => wp Xp (asInt y) s fun j s => (small (l.getD 0) && small j) = true ∧ P (rgD tp (rngL (l.getD 0) (j - l.getD 0).toNat)) s := by
  rw [evE]
  simp only [wp_bind, wp_guard, wp_pure]
theorem w_dct {es : Exs} : wp Xp (evE C (.dct es) ρ) st P ↔ wp Xp (evEs C es ρ) st fun xs s => xs.length ≤ 30 ∧ ∃ kvs, pairsOf xs = some kvs ∧ P (.newD false (dPuts [] kvs)) s := by
  rw [evE]
  simp only [wp_bind, wp_guard, wp_ofO, wp_pure, decide_eq_true_eq]
theorem w_dget {a k d : Ex} : wp Xp (evE C (.dget a k d) ρ) st P ↔ wp Xp (evE C a ρ) st fun x s => wp Xp (refOf x) s fun i s => wp Xp (lookDict x) s fun c0 s => (!c0.1) = true ∧ wp Xp (evE C k ρ) s fun y s => wp Xp (evE C d ρ) s fun z s => wp Xp (lookDict x) s fun c s => wp Xp (look y) s fun u s => wp Xp (look z) s fun v s =>
    ((!c.1) && keyOk c.1 u && shal 0 v && decide (i = i)) = true ∧ P (.dat ((dGet c.2 u).getD v)) s := by
  rw [evE]
  simp only [wp_bind, wp_guard, wp_pure]
theorem w_index {a b : Ex} : wp Xp (evE C (.index a b) ρ) st P ↔ wp Xp (evE C a ρ) st fun x s => ∃ u, seqD x = some u ∧ wp Xp (evE C b ρ) s fun y s => wp Xp (look y) s fun v s => ∃ j, ixV u v = some j ∧ P (.dat (.int (j : Nat))) s := by
  rw [evE]
  simp only [wp_bind, wp_ofO, Option.map_eq_some_iff]
  constructor <;> intro h <;> refine wp_mono h fun x s ⟨u, e, h⟩ => ⟨u, e, wp_mono h fun y s h => wp_mono h fun v s h => ?_⟩
  · obtain ⟨_, ⟨j, e, rfl⟩, h⟩ := h
    exact ⟨j, e, h⟩
  · obtain ⟨j, e, h⟩ := h
    exact ⟨_, ⟨j, e, rfl⟩, h⟩
theorem seqD_L {xs : List PyData} : seqD (.dat (.list xs)) = some (.list xs) := rfl
theorem seqD_T {xs : List PyData} : seqD (.dat (.tuple xs)) = some (.tuple xs) := rfl
theorem w_dksL {a : Ex} : wp Xp (evE C (.dks false a) ρ) st P ↔ wp Xp (evE C a ρ) st fun x s => wp Xp (lookDict x) s fun c s => (!c.1) = true ∧ P (.newL (c.2.map (·.1))) s := by
  rw [evE]
  simp only [wp_bind, wp_guard, wp_pure]
theorem w_dksS {a : Ex} : wp Xp (evE C (.dks true a) ρ) st P ↔ wp Xp (evE C a ρ) st fun x s => wp Xp (lookDict x) s fun c s => (!c.1) = true ∧ ∃ ns, allInts (c.2.map (·.1)) = some ns ∧ ns.length < 64 ∧ P (.newL ((isort ns).map .int)) s := by
  rw [evE]
  simp only [wp_bind, wp_guard, wp_ofO, wp_pure, decide_eq_true_eq]
theorem w_dof {a : Ex} : wp Xp (evE C (.dof a) ρ) st P ↔ wp Xp (evE C a ρ) st fun x s => wp Xp (look x) s fun u s => ∃ xs kvs, u = .list xs ∧ pairsL xs = some kvs ∧ P (.newD false (dPuts [] kvs)) s := by
  rw [evE]
  simp only [wp_bind]
  constructor <;> intro h <;> refine wp_mono h fun x s h => wp_mono h fun u s h => ?_
  · cases u <;> first | exact h.elim | skip
    rw [wp_bind] at h
    obtain ⟨kvs, e, h⟩ := wp_ofO.mp h
    exact ⟨_, kvs, rfl, e, h⟩
  · obtain ⟨xs, kvs, rfl, e, h⟩ := h
    show wp Xp (ofO _ >>= _) s P
    rw [wp_bind]
    exact wp_ofO.mpr ⟨kvs, e, h⟩
theorem w_dofT {a : Ex} : wp Xp (evE C (.dofT a) ρ) st P ↔ wp Xp (evE C a ρ) st fun x s => wp Xp (look x) s fun u s => ∃ xs kvs, u = .list xs ∧ pairsT xs = some kvs ∧ P (.newD true (dPuts [] kvs)) s := by
  rw [evE]
  simp only [wp_bind]
  constructor <;> intro h <;> refine wp_mono h fun x s h => wp_mono h fun u s h => ?_
  · cases u <;> first | exact h.elim | skip
    rw [wp_bind] at h
    obtain ⟨kvs, e, h⟩ := wp_ofO.mp h
    exact ⟨_, kvs, rfl, e, h⟩
  · obtain ⟨xs, kvs, rfl, e, h⟩ := h
    show wp Xp (ofO _ >>= _) s P
    rw [wp_bind]
    exact wp_ofO.mpr ⟨kvs, e, h⟩
theorem w_ext {a x : Ex} : wp Xp (evE C (.ext a x) ρ) st P ↔ wp Xp (evE C a ρ) st fun p s => wp Xp (refOf p) s fun i s => wp Xp (cellAt i) s fun _ s => wp Xp (evE C x ρ) s fun y s => wp Xp (lookN y) s fun zs s => wp Xp (cellAt i) s fun xs s => xs.length + zs.length ≤ LIM ∧ P (.dat .none) (s.set i (.lst (xs ++ zs))) := by
  rw [evE]
  simp only [wp_bind, wp_guard, wp_pure, wp_putCell, decide_eq_true_eq]
theorem w_sset {a : Ex} : wp Xp (evE C (.sset a) ρ) st P ↔ wp Xp (evE C a ρ) st fun x s => wp Xp (look x) s fun u s => ∃ xs ns, u = .list xs ∧ allInts xs = some ns ∧ ns.length < 64 ∧ P (.newL ((sset ns).map .int)) s := by
  rw [evE]
  simp only [wp_bind]
  constructor <;> intro h <;> refine wp_mono h fun x s h => wp_mono h fun u s h => ?_
  · cases u <;> first | exact h.elim | skip
    rw [wp_bind] at h
    obtain ⟨ns, e, h⟩ := wp_ofO.mp h
    rw [wp_bind, wp_guard] at h
    exact ⟨_, ns, rfl, e, of_decide_eq_true h.1, h.2⟩
  · obtain ⟨xs, ns, rfl, e, l, h⟩ := h
    show wp Xp (ofO _ >>= _) s P
    rw [wp_bind]
    refine wp_ofO.mpr ⟨ns, e, ?_⟩
    rw [wp_bind, wp_guard]
    exact ⟨decide_eq_true l, h⟩
theorem w_upd {a x : Ex} : wp Xp (evE C (.upd a x) ρ) st P ↔ wp Xp (evE C a ρ) st fun p s => wp Xp (refOf p) s fun i s => wp Xp (lookDict (.ref i)) s fun b s => b.1 = false ∧ wp Xp (evE C x ρ) s fun y s => wp Xp (refOf y) s fun j s => wp Xp (lookDict (.ref j)) s fun e s => wp Xp (lookDict (.ref i)) s fun c s =>
    (c.1 = false ∧ e.1 = false ∧ i ≠ j ∧ c.2.length + e.2.length ≤ LIM) ∧ P (.dat .none) (s.set i (.dct false (dPuts c.2 e.2))) := by
  rw [evE]
  simp only [wp_bind, wp_guard, wp_pure, wp_putCell, decide_eq_true_eq, Bool.and_eq_true, Bool.not_eq_true', and_assoc]
theorem w_rev {a : Ex} : wp Xp (evE C (.rev a) ρ) st P ↔ wp Xp (evE C a ρ) st fun x s => wp Xp (look x) s fun u s => ∃ d, revV u = some d ∧ P d s := by
  rw [evE]
  simp only [wp_bind]
  constructor <;> intro h <;> refine wp_mono h fun x s h => wp_mono h fun u s h => ?_
  · cases u <;> first | exact h.elim | exact ⟨_, rfl, h⟩
  · obtain ⟨d, e, h⟩ := h
    cases u <;> first | (cases e; done) | (cases e; exact h)
theorem w_lookNT {xs : List PyData} {R : List PyData → Store → Prop} : wp Xp (lookN (.dat (.tuple xs))) st R ↔ R xs st := Iff.rfl
theorem w_tgD {a b : Ex} {d : D} {R : Env → Store → Prop} : wp Xp (evTg C (.subD a b) d ρ) st R ↔ wp Xp (evE C a ρ) st fun p s => wp Xp (evE C b ρ) s fun y s => wp Xp (look y) s fun k s => wp Xp (settle d) s fun z s => wp Xp (lookDict p) s fun c s => wp Xp (refOf p) s fun i s => keyOk c.1 k = true ∧ c.2.length < LIM ∧ R ρ (s.set i (.dct c.1 (dPut k z c.2))) := by
  rw [evTg]
  simp only [wp_bind, wp_guard, wp_pure, wp_putCell, Bool.and_eq_true, decide_eq_true_eq, and_assoc]
theorem keyOk_I {i : Int} : keyOk false (.int i) = true := rfl
theorem keyOk_S {i : Str} : keyOk false (.str i) = true := rfl
theorem keyOk_T {ns : List Int} : keyOk true (.tuple (ns.map .int)) = true := by
  show (true && (ns.map PyData.int).all isInt) = true
  simp [isInt]
theorem rgD_t {xs : List PyData} : rgD true xs = .dat (.tuple xs) := rfl
theorem rgD_f {xs : List PyData} : rgD false xs = .newL xs := rfl
end
/-! ### runs that come to one value -/
section
variable {Xp : Exc → Store → Prop} {α : Type} {m : M α} {st s : Store} {v : α} {Q : α → Store → Prop}
theorem runs_iff (h : ∀ R : α → Store → Prop, R v s → wp NoX m st R) : wp Xp m st Q ↔ Q v s := by
  have := h (fun a t => a = v ∧ t = s) ⟨rfl, rfl⟩
  unfold wp at this ⊢
  cases e : m st with
  | ok a t => rw [e] at this; obtain ⟨rfl, rfl⟩ := this; exact Iff.rfl
  | exc x t => rw [e] at this; exact this.elim
  | no => rw [e] at this; exact this.elim
theorem wp_call' {P : List Def} {w k f : Nat} {d : Def} {args : List D} {Q : D → Store → Prop} (hf : P[f]? = some d) (hl : args.length = d.ps.length) (hk : 0 < k)
    (h : wp (fun x s => Xp x (s.take st.length)) (evSts ⟨callF P w (k - 1), w⟩ d.body (args.map some ++ List.replicate (d.names.length - args.length) none)) st (Ends (fun x s => Xp x (s.take st.length)) st.length Q)) : wp Xp (callF P w k f args) st Q := by
  obtain ⟨j, rfl⟩ : ∃ j, k = j + 1 := ⟨k - 1, by omega⟩
  exact wp_call hf hl h
end
end MP
end MW2

section MW3
set_option Elab.async false
set_option linter.all false
set_option maxRecDepth 100000
set_option autoImplicit false
set_option maxHeartbeats 2000000

/-! MW3: the rules in one bundle. -/
namespace MP
open PySem
theorem rngL_map (n : Nat) (lo : Int) : rngL lo n = (List.range n).map fun k : Nat => PyData.int (lo + (k : Int)) := by
  rw [ints_eq, List.map_map]
  rfl
theorem zero_add_int (k : Int) : 0 + k = k := Int.zero_add k
theorem small_of {k : Int} (h : -1000000 ≤ k) (h2 : k ≤ 1000000) : small k = true := decide_eq_true ⟨h, h2⟩
theorem add_sub_one (a b : Int) : a + b - b = a := by omega
theorem rep_flat {x : PyData} : ∀ n : Nat, (List.replicate n [x]).flatten = List.replicate n x
  | 0 => rfl
  | n + 1 => by rw [List.replicate_succ, List.flatten_cons, rep_flat n]; rfl
theorem o_mulT1 {x : PyData} {k : Int} (h : -1000 ≤ k) (h2 : k ≤ 1000) : bopV .mul (.tuple [x]) (.int k) = some (.dat (.tuple (List.replicate k.toNat x))) := by
  rw [← rep_flat]
  exact if_pos ⟨h, h2, by rw [List.length_singleton]; omega⟩
theorem o_mulL1 {x : PyData} {k : Int} (h : -1000 ≤ k) (h2 : k ≤ 100000) : bopV .mul (.list [x]) (.int k) = some (.newL (List.replicate k.toNat x)) := by
  rw [← rep_flat]
  exact if_pos ⟨h, h2, by rw [List.length_singleton, LIM]; omega⟩
theorem seq_L {xs : List PyData} : seqOf (.dat (.list xs)) = some xs := rfl
theorem seq_T {xs : List PyData} : seqOf (.dat (.tuple xs)) = some xs := rfl
theorem seq_N {xs : List PyData} : seqOf (.newL xs) = some xs := rfl
section
variable {t : Ty}
theorem isi_T {xs : List PyData} : isiV t (.tuple xs) = decide (t = .tuple) := by cases t <;> rfl
theorem isi_L {xs : List PyData} : isiV t (.list xs) = decide (t = .list) := by cases t <;> rfl
theorem isi_D {xs : List (PyData × PyData)} : isiV t (.dict xs) = decide (t = .dict) := by cases t <;> rfl
theorem isi_S {xs : Str} : isiV t (.str xs) = decide (t = .str) := by cases t <;> rfl
theorem isi_I {i : Int} : isiV t (.int i) = decide (t = .int) := by cases t <;> rfl
theorem isi_B {b : Bool} : isiV t (.bool b) = (decide (t = .bool) || decide (t = .int)) := by cases t <;> rfl
theorem isi_N : isiV t .none = false := by cases t <;> rfl
end
theorem allB_map {α : Type} {p : α → Bool} {l : List α} : biV .all [.list (l.map fun x => PyData.bool (p x))] = some (.dat (.bool (l.all p))) := by
  have := o_all (allBools_map (l.map p))
  rw [List.map_map] at this
  rw [show (fun x => PyData.bool (p x)) = PyData.bool ∘ p from rfl, this]
  simp [List.all_map]
theorem anyB_map {α : Type} {p : α → Bool} {l : List α} : biV .any [.list (l.map fun x => PyData.bool (p x))] = some (.dat (.bool (l.any p))) := by
  have := o_any (allBools_map (l.map p))
  rw [List.map_map] at this
  rw [show (fun x => PyData.bool (p x)) = PyData.bool ∘ p from rfl, this]
  simp [List.any_map]
theorem sumI_map {α : Type} {p : α → Int} {l : List α} : biV .sum [.list (l.map fun x => PyData.int (p x))] = some (.dat (.int (l.map p).sum)) := by
  have := o_sum (allInts_map (l.map p))
  rw [List.map_map] at this
  rw [show (fun x => PyData.int (p x)) = PyData.int ∘ p from rfl, this]
theorem cutV_T {xs : List PyData} {lo hi : Option Int} : cutV (.tuple xs) lo hi = some (.dat (.tuple (cut xs lo hi))) := rfl
theorem cutV_L {xs : List PyData} {lo hi : Option Int} : cutV (.list xs) lo hi = some (.newL (cut xs lo hi)) := rfl
theorem succ_sub (n : Nat) : (((n + 1 : Nat) : Int) - 1).toNat = n := by omega
theorem ix_cons1 {d : PyData} {xs : List PyData} {x : Nat} (h : x < xs.length) : idxV (.tuple (d :: xs)) (.int (1 + (x : Int))) = xs[x]? := by
  rw [o_ixt (by omega) (by rw [List.length_cons]; omega), show (1 + (x : Int)).toNat = x + 1 by omega, List.getElem?_cons_succ]
theorem getm {vs : List Int} {x : Nat} (h : x < vs.length) : (vs.map PyData.int)[x]? = some (.int (vs.getD x 0)) := by
  rw [List.getElem?_map, List.getElem?_eq_getElem h, List.getD_eq_getElem?_getD, List.getElem?_eq_getElem h]
  rfl
theorem o_eqNilI {α : Type} {l : List α} {g : α → Int} : copV .eq (.list (l.map fun j => PyData.int (g j))) (.list []) = some l.isEmpty := by
  have e : (l.map fun j => PyData.int (g j)) = (l.map g).map .int := by rw [List.map_map]; rfl
  have h2 : PyData.eqvAll ((l.map g).map .int) [] = l.isEmpty := by cases l <;> rfl
  rw [e]
  simp only [copV, cmpE, shal, shalAll_ints, shalAll, PyData.eqv, h2, Bool.and_self, if_true, id]
theorem o_neNilI {α : Type} {l : List α} {g : α → Int} : copV .ne (.list (l.map fun j => PyData.int (g j))) (.list []) = some (!l.isEmpty) := by
  have e : (l.map fun j => PyData.int (g j)) = (l.map g).map .int := by rw [List.map_map]; rfl
  have h2 : PyData.eqvAll ((l.map g).map .int) [] = l.isEmpty := by cases l <;> rfl
  rw [e]
  simp only [copV, cmpE, shal, shalAll_ints, shalAll, PyData.eqv, h2, Bool.and_self, if_true]
theorem o_eqNil0 : copV .eq (.list []) (.list []) = some true := rfl
theorem o_neNil0 : copV .ne (.list []) (.list []) = some false := rfl
section
variable {Xp : Exc → Store → Prop} {C : Ctx} {ρ : Env} {st s : Store} {P : Out → Store → Prop}
theorem wp_frz {i : Nat} {r : Sts} : wp Xp (evSts C (.frz i r) ρ) st P ↔ ∃ j, ρ[i]? = some (some (.ref j)) ∧ ∃ xs, st[j]? = some (.lst xs) ∧ wp Xp (evSts C r (ρ.set i (some (.dat (.list xs))))) (st.set j .dead) P := by
  rw [evSts, wp_bind]
  constructor
  · intro h
    obtain ⟨j, xs, h1, h2, h3⟩ := frz_ref h
    exact ⟨j, h1, xs, h2, h3⟩
  · rintro ⟨j, h1, xs, h2, h3⟩
    unfold wp frzE
    rw [h1]
    dsimp only
    rw [h2]
    exact h3
theorem rst_frz {i : Nat} {r : Sts} : Rst Xp C (.frz i r) P (.next ρ) s ↔ ∃ j, ρ[i]? = some (some (.ref j)) ∧ ∃ xs, s[j]? = some (.lst xs) ∧ wp Xp (evSts C r (ρ.set i (some (.dat (.list xs))))) (s.set j .dead) P := wp_frz
end
/-- the bundle -/
def WB := And.intro @w_pure <| And.intro @w_ofO <| And.intro @w_guard <| And.intro @w_look <| And.intro @w_lookN <| And.intro @w_lookR <| And.intro @w_settle <| And.intro @w_settleN <| And.intro @w_settleD <| And.intro @w_asInt <| And.intro @w_asBool <| And.intro @w_refOf <| And.intro @w_cellAt <| And.intro @w_newCell <| And.intro @w_newCellD <| And.intro @w_looks0 <| And.intro @w_looks <| And.intro @w_var <| And.intro @w_con <| And.intro @w_glob <| And.intro @w_bin <| And.intro @w_neg <| And.intro @w_cmp <| And.intro @w_chain <| And.intro @w_isin <| And.intro @w_and <| And.intro @w_or <| And.intro @w_not <| And.intro @w_ifx <| And.intro @w_tup <| And.intro @w_lst <| And.intro @w_emp <| And.intro @w_idx <| And.intro @w_slc <| And.intro @w_bi <| And.intro @w_lrng <| And.intro @w_isi <| And.intro @w_call <| And.intro @w_cell <| And.intro @w_app <| And.intro @w_pop <| And.intro @w_popAt <| And.intro @w_esN <| And.intro @w_es <| And.intro @w_asN <| And.intro @w_as <| And.intro @w_oN <| And.intro @w_o <| And.intro @w_ifN <| And.intro @w_if <| And.intro @w_tgN <| And.intro @w_tgT <| And.intro @w_tgS <| And.intro @w_tgsN <| And.intro @w_tgs <| And.intro @w_itV <| And.intro @w_it1 <| And.intro @w_it2 <| And.intro @w_itE <| And.intro @w_itZ <| And.intro @w_itZ3 <| And.intro @w_forE <| And.intro @en_ref <| And.intro @en_lst <| And.intro @en_tup <| And.intro @w_par33 <| And.intro @z_ll <| And.intro @z_tt <| And.intro @z_lt <| And.intro @z_tl <| And.intro @z_ttt <| And.intro @w_asg <| And.intro @w_par2 <| And.intro @w_expr <| And.intro @w_ret <| And.intro @w_sife <| And.intro @w_stsN <| And.intro @w_brk <| And.intro @w_cnt <| And.intro @w_pass <| And.intro @w_leave <| And.intro @w_leaveN <| And.intro @w_leaveD <| And.intro @ends_ret <| And.intro @w_bind <| And.intro @w_noX <| And.intro @keep_dat <| And.intro @keep_ref <| And.intro @keep_newL <| And.intro @keep_newD <| And.intro @lim_of <| And.intro @lim_lt <| And.intro @o_addI <| And.intro @o_subI <| And.intro @o_mul <| And.intro @o_fdiv <| And.intro @o_modI <| And.intro @o_pow <| And.intro @o_addT <| And.intro @o_addL <| And.intro @o_ltI <| And.intro @o_leI <| And.intro @o_gtI <| And.intro @o_geI <| And.intro @o_eqI <| And.intro @o_neI <| And.intro @o_isN <| And.intro @o_notN <| And.intro @o_eqB <| And.intro @o_neB <| And.intro @o_eqS <| And.intro @o_neS <| And.intro @o_lenL <| And.intro @o_lenT <| And.intro @o_abs <| And.intro @o_tupL <| And.intro @o_tupT <| And.intro @o_lisL <| And.intro @o_lisT <| And.intro @o_intI <| And.intro @o_intB <| And.intro @o_ix0 <| And.intro @o_ix1 <| And.intro @o_ix2 <| And.intro @o_ix3 <| And.intro @o_it0 <| And.intro @o_it1 <| And.intro @o_it2 <| And.intro @o_it3 <| And.intro @ixPl_of <| And.intro @take_self <| And.intro @take_set <| And.intro @get_set <| And.intro @set_set' <| And.intro @w_sts1 <| And.intro @ends_next <| And.intro @rst_ret <| And.intro @rst_brk <| And.intro @rst_cnt <| And.intro @rst_nil <| And.intro @trn_brk <| And.intro @trn_ret <| And.intro @trn_cnt <| And.intro @w_for <| And.intro @w_while <| And.intro @w_lc <| And.intro @rngL_map <| And.intro @zero_add_int <| And.intro @small_of <| And.intro @o_mulT1 <| And.intro @o_mulL1 <| And.intro @seq_L <| And.intro @seq_T <| And.intro @seq_N <| And.intro @isi_T <| And.intro @isi_L <| And.intro @isi_D <| And.intro @isi_S <| And.intro @isi_I <| And.intro @isi_B <| And.intro @isi_N <| And.intro @allB_map <| And.intro @anyB_map <| And.intro @o_anyT <| And.intro @sumI_map <| And.intro @cutV_T <| And.intro @cutV_L <| And.intro @succ_sub <| And.intro @ix_cons1 <| And.intro @getm <| And.intro @o_eqNilI <| And.intro @o_neNilI <| And.intro @o_eqNil0 <| And.intro @o_neNil0 <| And.intro @w_lookD <| And.intro @w_lookDN <| And.intro @w_lookNN <| And.intro @w_lookNR <| And.intro @w_isinD <| And.intro @w_idxD <| And.intro @w_rgv <| And.intro @w_dct <| And.intro @w_dget <| And.intro @w_index <| And.intro @seqD_L <| And.intro @seqD_T <| And.intro @w_dksL <| And.intro @w_dksS <| And.intro @w_dof <| And.intro @w_dofT <| And.intro @w_sset <| And.intro @w_upd <| And.intro @w_ext <| And.intro @w_rev <| And.intro @w_tgD <| And.intro @keyOk_I <| And.intro @keyOk_S <| And.intro @keyOk_T <| And.intro @rgD_t <| And.intro @rgD_f <| And.intro @revV_L <| And.intro @revV_T <| And.intro @w_lookNT <| And.intro @o_isB <| And.intro @o_notB <| @add_sub_one
end MP
end MW3

local macro_rules
  | `(tactic| simp? only [$ls,*]) => `(tactic| simp (disch := first | assumption | omega | (simp only [List.length_replicate, List.length_map, List.length_range, List.length_append, List.length_cons, List.length_nil, List.length_set, List.length_take, List.length_drop, List.length_dropLast] <;> omega) | fail) only [MP.WB, MP.tgsLen, exists_eq_left', exists_eq_left, exists_eq', Option.some.injEq, Option.map_some, Option.bind_some, List.getElem?_cons_zero, List.getElem?_cons_succ, List.set_cons_zero, List.set_cons_succ, List.any_cons, List.any_nil, List.map_cons, List.map_nil, List.cons_append, List.nil_append, List.length_cons, List.length_nil, PySem.PyData.int.injEq, PySem.PyData.bool.injEq, PySem.PyData.str.injEq, PySem.PyData.list.injEq, PySem.PyData.tuple.injEq, MP.D.dat.injEq, MP.D.ref.injEq, MP.Cell.lst.injEq, List.cons.injEq, Bool.not_true, Bool.not_false, Bool.or_false, Bool.or_true, Bool.false_or, Bool.true_or, Bool.and_true, Bool.true_and, Bool.and_false, Bool.false_and, decide_true, decide_false, decide_eq_true_eq, decide_eq_false_iff_not, true_and, and_true, false_and, and_false, Bool.false_eq_true, Bool.true_eq_false, reduceCtorEq, if_true, if_false, ite_true, ite_false, true_implies, false_implies, implies_true, forall_const, forall_eq', forall_eq, id, Bool.not_eq_true', Bool.not_eq_false', MP.wipeE, Nat.zero_le, List.length_set, Nat.reduceAdd, Nat.reduceSub, List.replicate_succ, List.replicate_zero, Int.reduceToNat, Int.toNat_one, Int.toNat_zero, List.length_map, List.length_range, Int.toNat_natCast, MP.TrnK, and_assoc, Option.getD_none, Option.getD_some, Int.sub_zero, MP.cut_hi, MP.cut_lo, MP.cut_last, List.drop_succ_cons, List.drop_zero, $ls,*])
section B0
set_option Elab.async false
set_option linter.all false
set_option maxRecDepth 100000
set_option autoImplicit false
set_option maxHeartbeats 2000000

/-! B0: perms, what comes of them, tables of groups: plain laws. -/
namespace MP
open PySem
abbrev Pm := List Nat
def aft (p q : Pm) : Pm := q.map fun k => p.getD k 0
def memP (l : List Pm) (p : Pm) : Bool := l.any fun q => q == p
theorem memP_iff {l : List Pm} {p : Pm} : memP l p = true ↔ p ∈ l := by
  unfold memP
  rw [List.any_eq_true]
  exact ⟨fun ⟨q, h, e⟩ => (beq_iff_eq.mp e) ▸ h, fun h => ⟨p, h, beq_self_eq_true _⟩⟩
def thIn (here : Pm) (s : List Pm × List Pm) (p : Pm) : List Pm × List Pm := if memP s.1 (aft here p) then s else (s.1 ++ [aft here p], s.2 ++ [aft here p])
def thGo (ps : List Pm) : Nat → List Pm → List Pm → Option (List Pm)
  | 0, f, l => if l.isEmpty then some f else none
  | n + 1, f, l => match l.getLast? with
    | none => some f
    | some h => let s := ps.foldl (thIn h) (f, l.dropLast); thGo ps n s.1 s.2
def cyc (m : Nat) : Pm := (List.range m).map fun k => (k + 1) % m
def neg (m : Nat) : Pm := (List.range m).map fun k => (m - k) % m
def menu : List (List Pm) := [[[1, 0, 2, 3], [0, 1, 3, 2]], [[1, 0, 2, 3, 4, 5], [0, 1, 3, 4, 5, 2]], [[1, 2, 0, 3], [1, 0, 3, 2]], [[1, 2, 3, 0, 5, 6, 7, 4], [4, 7, 6, 5, 2, 1, 0, 3]], [[1, 2, 0, 3, 4, 5, 6], [0, 2, 1, 4, 5, 6, 3]], [[1, 2, 0, 3, 4, 5], [0, 1, 2, 4, 5, 3]]]
def menu2 : List (List Pm) := [[[1, 2, 3, 4, 0], [0, 2, 4, 1, 3]], [[1, 2, 3, 0], [1, 0, 2, 3]], [[1, 2, 3, 4, 5, 6, 0], [0, 2, 4, 6, 1, 3, 5]]]
/-- all perms that the law takes -/
def PS : List (List Pm) := ((List.range 10).map fun k => [cyc (1 + k)]) ++ ((List.range 4).map fun k => [cyc (3 + k), neg (3 + k)]) ++ menu ++ menu2
def okP (n : Nat) (p : Pm) : Bool := p.length == n && p.all fun k => decide (k < n)
/-- perms that make a group of at most 24 -/
def nodupB : List Pm → Bool
  | [] => true
  | p :: r => !memP r p && nodupB r
def grpB (ps th : List Pm) (n : Nat) : Bool := th.head? == some (List.range n) && decide (th.length ≤ 24) && th.all (okP n) && ps.all (okP n) && nodupB th && th.all (fun a => ps.all fun b => memP th (aft a b)) && th.all (fun a => th.any fun b => aft a b == List.range n && aft b a == List.range n)
def okPs (ps : List Pm) : Bool := match ps with
  | [] => false
  | p :: _ => decide (p.length ≤ 10) && match thGo ps 24 [List.range p.length] [List.range p.length] with
    | none => false
    | some th => grpB ps th p.length && th.all fun a => th.all fun b => memP th (aft a b)
theorem ok_PS : ∀ ps ∈ PS, okPs ps = true := by decide +kernel
theorem nodupB_iff : ∀ {l : List Pm}, nodupB l = true → l.Nodup
  | [], _ => List.nodup_nil
  | p :: r, h => by
    rw [nodupB, Bool.and_eq_true, Bool.not_eq_true'] at h
    refine List.nodup_cons.mpr ⟨fun m => ?_, nodupB_iff h.2⟩
    rw [memP_iff.mpr m] at h
    cases h.1
/-- what the perms make -/
structure Ths (n : Nat) (th : List Pm) : Prop where
  head : th.head? = some (List.range n)
  le : th.length ≤ 24
  ok : ∀ p ∈ th, p.length = n ∧ ∀ k ∈ p, k < n
  nodup : th.Nodup
  closed : ∀ a ∈ th, ∀ b ∈ th, aft a b ∈ th
  back : ∀ a ∈ th, ∃ b ∈ th, aft a b = List.range n ∧ aft b a = List.range n
theorem ths_of {ps : List Pm} (h : ps ∈ PS) : ∃ (p : Pm) (r th : List Pm), ps = p :: r ∧ p.length ≤ 10 ∧ thGo ps 24 [List.range p.length] [List.range p.length] = some th ∧ (∀ q ∈ ps, q.length = p.length ∧ ∀ k ∈ q, k < p.length) ∧ Ths p.length th := by
  have := ok_PS ps h
  cases ps with
  | nil => exact nomatch this
  | cons p r =>
    unfold okPs at this
    rw [Bool.and_eq_true] at this
    obtain ⟨h0, h1⟩ := this
    split at h1
    · exact nomatch h1
    · rename_i th e
      simp only [grpB, Bool.and_eq_true, List.all_eq_true, decide_eq_true_eq, beq_iff_eq, memP_iff, List.any_eq_true, okP] at h0 h1
      obtain ⟨⟨⟨⟨⟨⟨⟨a1, a2⟩, a3⟩, a4⟩, a5⟩, a6⟩, a7⟩, a8⟩ := h1
      exact ⟨p, r, th, rfl, h0, e, a4, a1, a2, a3, nodupB_iff a5, a8, a7⟩
theorem aft_assoc {n : Nat} {a b c : Pm} (hb : b.length = n) (hc : ∀ k ∈ c, k < n) : aft (aft a b) c = aft a (aft b c) := by
  unfold aft
  rw [List.map_map]
  refine List.map_congr_left fun k hk => ?_
  have := hc k hk
  simp only [Function.comp_apply, List.getD_eq_getElem?_getD, List.getElem?_map]
  rw [List.getElem?_eq_getElem (by omega)]
  rfl
theorem aft_one {n : Nat} {a : Pm} (ha : a.length = n) : aft a (List.range n) = a := by
  unfold aft
  subst ha
  refine List.ext_getElem (by simp) fun i h1 h2 => ?_
  simp [List.getD_eq_getElem?_getD, List.getElem?_eq_getElem h2]
theorem one_aft {n : Nat} {a : Pm} (ha : ∀ k ∈ a, k < n) : aft (List.range n) a = a := by
  unfold aft
  refine (List.map_congr_left fun k hk => ?_).trans (List.map_id _)
  have := ha k hk
  simp [List.getD_eq_getElem?_getD, List.getElem?_range this]
/-- a group's table -/
structure Grp (n : Nat) (m : Nat → Nat → Nat) : Prop where
  pos : 1 ≤ n
  le : n ≤ 60
  lt : ∀ i j, i < n → j < n → m i j < n
  assoc : ∀ i j k, i < n → j < n → k < n → m (m i j) k = m i (m j k)
  one : ∀ i, i < n → m 0 i = i
  one' : ∀ i, i < n → m i 0 = i
  back : ∀ i, i < n → ∃ j, j < n ∧ m i j = 0 ∧ m j i = 0
def natD (k : Nat) : PyData := .int (k : Int)
def gD (n : Nat) (m : Nat → Nat → Nat) : PyData := .tuple ((List.range n).map fun i => .tuple ((List.range n).map fun j => natD (m i j)))
/-- the table of perms in an order -/
def mOf (od : List Pm) (i j : Nat) : Nat := od.idxOf (aft (od.getD i []) (od.getD j []))
theorem grp_of {n : Nat} {th od : List Pm} (T : Ths n th) (hp : od.Perm th) (hh : od.head? = some (List.range n)) : Grp od.length (mOf od) := by
  have mem : ∀ {p}, p ∈ od ↔ p ∈ th := fun {p} => hp.mem_iff
  have nd : od.Nodup := hp.nodup_iff.mpr T.nodup
  have gm : ∀ i, i < od.length → od.getD i [] ∈ od := fun i hi => by
    rw [List.getD_eq_getElem?_getD, List.getElem?_eq_getElem hi]
    exact List.getElem_mem hi
  have gi : ∀ p ∈ od, od.getD (od.idxOf p) [] = p := fun p h => by
    have := List.idxOf_lt_length_of_mem h
    rw [List.getD_eq_getElem?_getD, List.getElem?_eq_getElem this]
    exact List.getElem_idxOf this
  have ig : ∀ i, i < od.length → od.idxOf (od.getD i []) = i := fun i hi => by
    rw [List.getD_eq_getElem?_getD, List.getElem?_eq_getElem hi]
    exact nd.idxOf_getElem i hi
  have mm : ∀ i j, i < od.length → j < od.length → aft (od.getD i []) (od.getD j []) ∈ od := fun i j hi hj => mem.mpr (T.closed _ (mem.mp (gm i hi)) _ (mem.mp (gm j hj)))
  have g0 : od.getD 0 [] = List.range n := by
    cases od with
    | nil => exact nomatch hh
    | cons p r => cases hh; rfl
  have pos : 0 < od.length := by
    cases od with
    | nil => exact nomatch hh
    | cons p r => simp
  have k0 : od.idxOf (List.range n) = 0 := by rw [← g0]; exact ig 0 pos
  have ok : ∀ i, i < od.length → (od.getD i []).length = n ∧ ∀ k ∈ od.getD i [], k < n := fun i hi => T.ok _ (mem.mp (gm i hi))
  refine ⟨pos, by (have := T.le; rw [hp.length_eq]; omega), fun i j hi hj => List.idxOf_lt_length_of_mem (mm i j hi hj), fun i j k hi hj hk => ?_, fun i hi => ?_, fun i hi => ?_, fun i hi => ?_⟩
  · unfold mOf
    rw [gi _ (mm i j hi hj), gi _ (mm j k hj hk), aft_assoc (ok j hj).1 (ok k hk).2]
  · unfold mOf
    rw [g0, one_aft (ok i hi).2, ig i hi]
  · unfold mOf
    rw [g0, aft_one (ok i hi).1, ig i hi]
  · obtain ⟨b, hb, e1, e2⟩ := T.back _ (mem.mp (gm i hi))
    have hb2 := mem.mpr hb
    refine ⟨od.idxOf b, List.idxOf_lt_length_of_mem hb2, ?_, ?_⟩
    · unfold mOf
      rw [gi _ hb2, e1, k0]
    · unfold mOf
      rw [gi _ hb2, e2, k0]
end MP
end B0

section L0
set_option Elab.async false
set_option linter.all false
set_option maxRecDepth 100000
set_option autoImplicit false
set_option maxHeartbeats 1000000
/-! L0: the feed; perms. -/
namespace MP
open PySem
def d_is_whole : Def := ⟨"is_whole", ["thing"], ["thing"],
  .cons (.ret (.and (.isi (.var 0) [.int] false) (.not (.isi (.var 0) [.bool] false)))) .nil⟩

def isWhole : PyData → Bool
  | .int _ => true
  | _ => false
/-- the feed's cell -/
def feedC (cs : List Int) (a b c : Int) : Cell := .lst [.list (cs.map .int), .int a, .int b, .int c]
/-- a feed stands at i, at most n draws on -/
def Fd (n : Nat) (st : Store) (i : Nat) : Prop := ∃ (cs : List Int) (a b c : Int), st[i]? = some (feedC cs a b c) ∧ cs.length ≤ 63 ∧ 0 ≤ a ∧ a ≤ n ∧ 0 ≤ b ∧ 0 ≤ c
theorem Fd.mono {n m : Nat} {st : Store} {i : Nat} (h : Fd n st i) (l : n ≤ m) : Fd m st i := by
  obtain ⟨cs, a, b, c, e, h1, h2, h3, h4, h5⟩ := h
  exact ⟨cs, a, b, c, e, h1, h2, by omega, h4, h5⟩
theorem Fd.lt {n : Nat} {st : Store} {i : Nat} (h : Fd n st i) : i < st.length := by
  obtain ⟨cs, a, b, c, e, _⟩ := h
  exact (List.getElem?_eq_some_iff.mp e).1
section
variable {Xp : Exc → Store → Prop} {P : List Def} {w k f : Nat} {st : Store} {Q : D → Store → Prop}
end
end MP
end L0

section L1
set_option Elab.async false
set_option linter.all false
set_option maxRecDepth 100000
set_option autoImplicit false
set_option maxHeartbeats 1000000
/-! L1: perms. -/
namespace MP
open PySem
def isPermB : PyData → Bool
  | .tuple xs => decide (1 ≤ xs.length) && decide (xs.length ≤ 24) && xs.all isWhole && (match allInts xs with
    | some ns => decide (isort ns = (List.range ns.length).map fun k : Nat => (k : Int))
    | none => false)
  | _ => false
section
variable {Xp : Exc → Store → Prop} {P : List Def} {w k f : Nat} {st : Store} {Q : D → Store → Prop}
end
end MP
end L1

section L2
set_option Elab.async false
set_option linter.all false
set_option maxRecDepth 100000
set_option autoImplicit false
set_option maxHeartbeats 1000000
/-! L2: perms by the law. -/
namespace MP
open PySem
theorem nat_up : ∀ n : Nat, ((List.range n).map fun k : Nat => (k : Int)).Pairwise (· ≤ ·) := fun n => by
  rw [List.pairwise_map]
  exact (List.pairwise_lt_range (n := n)).imp fun h => by omega
theorem up_perm {a b : List Int} (ha : a.Pairwise (· ≤ ·)) (hb : b.Pairwise (· ≤ ·)) (h : a.Perm b) : a = b :=
  List.Perm.eq_of_pairwise (fun _ _ _ _ h1 h2 => Int.le_antisymm h1 h2) ha hb h
section
variable {Xp : Exc → Store → Prop} {P : List Def} {w k f : Nat} {st : Store} {Q : D → Store → Prop}
end
end MP
end L2

section L3
set_option Elab.async false
set_option linter.all false
set_option maxRecDepth 100000
set_option autoImplicit false
set_option maxHeartbeats 1000000
/-! L3: perms drawn. -/
namespace MP
open PySem
section
variable {st : Store} {A B X : Cell} {r : Store} {N : Nat}
theorem ap_g {i : Nat} (h : i < st.length) : (st ++ r)[i]? = st[i]? := List.getElem?_append_left h
theorem Fd.app {n i : Nat} (h : Fd n st i) : Fd n (st ++ r) i := by
  have l := h.lt
  obtain ⟨cs, a, b, c, e, h1⟩ := h
  exact ⟨cs, a, b, c, by rw [ap_g l]; exact e, h1⟩
theorem Fd.of {n i : Nat} (l : i < st.length) (h : Fd n (st ++ r) i) : Fd n st i := by
  obtain ⟨cs, a, b, c, e, h1⟩ := h
  exact ⟨cs, a, b, c, by rw [ap_g l] at e; exact e, h1⟩
end
section
variable {Xp : Exc → Store → Prop} {P : List Def} {w k f : Nat} {st : Store} {Q : D → Store → Prop}
end
end MP
end L3

section L4
set_option Elab.async false
set_option linter.all false
set_option maxRecDepth 100000
set_option autoImplicit false
set_option maxHeartbeats 1000000
/-! L4: perms bent. -/
namespace MP
open PySem
section
variable {Xp : Exc → Store → Prop} {P : List Def} {w k f : Nat} {st : Store} {Q : D → Store → Prop}
end
end MP
end L4

section L5
set_option Elab.async false
set_option linter.all false
set_option maxRecDepth 100000
set_option autoImplicit false
set_option maxHeartbeats 1000000
/-! L5: repr of tuples of whole numbers; the law. -/
namespace MP
open PySem
end MP
end L5

section K1
set_option Elab.async false
set_option linter.all false
set_option maxRecDepth 100000
set_option autoImplicit false
set_option maxHeartbeats 2000000

/-! K1: greatest divisors, places, whole numbers. -/
namespace MP
open PySem
local macro_rules
  | `(tactic| array_get_dec) => `(tactic| simp (disch := first | assumption | omega | (simp only [List.length_replicate, List.length_map, List.length_range, List.length_append, List.length_cons, List.length_nil, List.length_set, List.length_take, List.length_drop, List.length_dropLast] <;> omega) | fail) only [WB, tgsLen, exists_eq_left', exists_eq_left, exists_eq', Option.some.injEq, Option.map_some, Option.bind_some, List.getElem?_cons_zero, List.getElem?_cons_succ, List.set_cons_zero, List.set_cons_succ, List.any_cons, List.any_nil, List.map_cons, List.map_nil, List.cons_append, List.nil_append, List.length_cons, List.length_nil, PyData.int.injEq, PyData.bool.injEq, PyData.str.injEq, PyData.list.injEq, PyData.tuple.injEq, D.dat.injEq, D.ref.injEq, Cell.lst.injEq, List.cons.injEq, Bool.not_true, Bool.not_false, Bool.or_false, Bool.or_true, Bool.false_or, Bool.true_or, Bool.and_true, Bool.true_and, Bool.and_false, Bool.false_and, decide_true, decide_false, decide_eq_true_eq, decide_eq_false_iff_not, true_and, and_true, false_and, and_false, Bool.false_eq_true, Bool.true_eq_false, reduceCtorEq, if_true, if_false, ite_true, ite_false, true_implies, false_implies, implies_true, forall_const, forall_eq', forall_eq, id, Bool.not_eq_true', Bool.not_eq_false', wipeE, Nat.zero_le, List.length_set, Nat.reduceAdd, Nat.reduceSub, List.replicate_succ, List.replicate_zero, Int.reduceToNat, Int.toNat_one, Int.toNat_zero, List.length_map, List.length_range, Int.toNat_natCast, TrnK, and_assoc, Option.getD_none, Option.getD_some, Int.sub_zero, cut_hi, cut_lo, cut_last, List.drop_succ_cons, List.drop_zero])
local macro_rules
  | `(tactic| sizeOf_list_dec) => `(tactic| ((try array_get_dec); repeat' (first
    | (rw [rst_cons]; array_get_dec)
    | (rw [wp_blk]; array_get_dec)
    | (rw [rst_frz]; array_get_dec)
    | (rw [wp_frz]; array_get_dec)
    | (refine And.intro (fun _ => ?_) (fun _ => ?_) <;> try array_get_dec)
    | fail)))

section
variable {Xp : Exc → Store → Prop} {P : List Def} {w k f : Nat} {st : Store} {Q : D → Store → Prop}
theorem is_whole_w (hf : P[f]? = some d_is_whole) (hk : 0 < k) {d : PyData} : wp Xp (callF P w k f [.dat d]) st Q ↔ Q (.dat (.bool (isWhole d))) st := runs_iff fun R hR => by
  refine wp_call' hf rfl (by omega) ?_; simp only [d_is_whole, List.map_cons, List.map_nil, List.length_cons, List.length_nil]; rw [wp_blk]
  sizeOf_list_dec
  all_goals cases d <;> simp_all [isiV, tyOf, isWhole]
/-! ### the law's own -/
end
end MP
end K1

section K2
set_option Elab.async false
set_option linter.all false
set_option maxRecDepth 100000
set_option autoImplicit false
set_option maxHeartbeats 2000000

/-! K2: the feed by its cell; repr. -/
namespace MP
open PySem
local macro_rules
  | `(tactic| array_get_dec) => `(tactic| simp (disch := first | assumption | omega | (simp only [List.length_replicate, List.length_map, List.length_range, List.length_append, List.length_cons, List.length_nil, List.length_set, List.length_take, List.length_drop, List.length_dropLast] <;> omega) | fail) only [WB, tgsLen, exists_eq_left', exists_eq_left, exists_eq', Option.some.injEq, Option.map_some, Option.bind_some, List.getElem?_cons_zero, List.getElem?_cons_succ, List.set_cons_zero, List.set_cons_succ, List.any_cons, List.any_nil, List.map_cons, List.map_nil, List.cons_append, List.nil_append, List.length_cons, List.length_nil, PyData.int.injEq, PyData.bool.injEq, PyData.str.injEq, PyData.list.injEq, PyData.tuple.injEq, D.dat.injEq, D.ref.injEq, Cell.lst.injEq, List.cons.injEq, Bool.not_true, Bool.not_false, Bool.or_false, Bool.or_true, Bool.false_or, Bool.true_or, Bool.and_true, Bool.true_and, Bool.and_false, Bool.false_and, decide_true, decide_false, decide_eq_true_eq, decide_eq_false_iff_not, true_and, and_true, false_and, and_false, Bool.false_eq_true, Bool.true_eq_false, reduceCtorEq, if_true, if_false, ite_true, ite_false, true_implies, false_implies, implies_true, forall_const, forall_eq', forall_eq, id, Bool.not_eq_true', Bool.not_eq_false', wipeE, Nat.zero_le, List.length_set, Nat.reduceAdd, Nat.reduceSub, List.replicate_succ, List.replicate_zero, Int.reduceToNat, Int.toNat_one, Int.toNat_zero, List.length_map, List.length_range, Int.toNat_natCast, TrnK, and_assoc, Option.getD_none, Option.getD_some, Int.sub_zero, cut_hi, cut_lo, cut_last, List.drop_succ_cons, List.drop_zero])
local macro_rules
  | `(tactic| sizeOf_list_dec) => `(tactic| ((try array_get_dec); repeat' (first
    | (rw [rst_cons]; array_get_dec)
    | (rw [wp_blk]; array_get_dec)
    | (rw [rst_frz]; array_get_dec)
    | (rw [wp_frz]; array_get_dec)
    | (refine And.intro (fun _ => ?_) (fun _ => ?_) <;> try array_get_dec)
    | fail)))

/-- a feed's cell, at most n draws on -/
def FdC (n : Nat) (c : Cell) : Prop := ∃ (cs : List Int) (a b d : Int), c = feedC cs a b d ∧ cs.length ≤ 63 ∧ 0 ≤ a ∧ a ≤ n ∧ 0 ≤ b ∧ 0 ≤ d
theorem FdC.mono {n m : Nat} {c : Cell} (h : FdC n c) (l : n ≤ m) : FdC m c := by
  obtain ⟨cs, a, b, d, e, h1, h2, h3, h4, h5⟩ := h
  exact ⟨cs, a, b, d, e, h1, h2, by omega, h4, h5⟩
theorem gset {st : Store} {i : Nat} {c0 c : Cell} (h : st[i]? = some c0) : (st.set i c)[i]? = some c := List.getElem?_set_self (List.getElem?_eq_some_iff.mp h).1
section
variable {Xp : Exc → Store → Prop} {P : List Def} {w k f : Nat} {st : Store} {Q : D → Store → Prop}
end
end MP
end K2

section B1
set_option Elab.async false
set_option linter.all false
set_option maxRecDepth 100000
set_option autoImplicit false
set_option maxHeartbeats 2000000

/-! B1: the tape, perms, groups, parts: what the laws k19 to k40 have in common. -/
namespace MP
open PySem
local macro_rules
  | `(tactic| array_get_dec) => `(tactic| simp (disch := first | assumption | omega | (simp only [List.length_replicate, List.length_map, List.length_range, List.length_append, List.length_cons, List.length_nil, List.length_set, List.length_take, List.length_drop, List.length_dropLast] <;> omega) | fail) only [WB, tgsLen, exists_eq_left', exists_eq_left, exists_eq', Option.some.injEq, Option.map_some, Option.bind_some, List.getElem?_cons_zero, List.getElem?_cons_succ, List.set_cons_zero, List.set_cons_succ, List.any_cons, List.any_nil, List.map_cons, List.map_nil, List.cons_append, List.nil_append, List.length_cons, List.length_nil, PyData.int.injEq, PyData.bool.injEq, PyData.str.injEq, PyData.list.injEq, PyData.tuple.injEq, D.dat.injEq, D.ref.injEq, Cell.lst.injEq, List.cons.injEq, Bool.not_true, Bool.not_false, Bool.or_false, Bool.or_true, Bool.false_or, Bool.true_or, Bool.and_true, Bool.true_and, Bool.and_false, Bool.false_and, decide_true, decide_false, decide_eq_true_eq, decide_eq_false_iff_not, true_and, and_true, false_and, and_false, Bool.false_eq_true, Bool.true_eq_false, reduceCtorEq, if_true, if_false, ite_true, ite_false, true_implies, false_implies, implies_true, forall_const, forall_eq', forall_eq, id, Bool.not_eq_true', Bool.not_eq_false', wipeE, Nat.zero_le, List.length_set, Nat.reduceAdd, Nat.reduceSub, List.replicate_succ, List.replicate_zero, Int.reduceToNat, Int.toNat_one, Int.toNat_zero, List.length_map, List.length_range, Int.toNat_natCast, TrnK, and_assoc, Option.getD_none, Option.getD_some, Int.sub_zero, cut_hi, cut_lo, cut_last, List.drop_succ_cons, List.drop_zero])
local macro_rules
  | `(tactic| sizeOf_list_dec) => `(tactic| ((try array_get_dec); repeat' (first
    | (rw [rst_cons]; array_get_dec)
    | (rw [wp_blk]; array_get_dec)
    | (rw [rst_frz]; array_get_dec)
    | (rw [wp_frz]; array_get_dec)
    | (refine And.intro (fun _ => ?_) (fun _ => ?_) <;> try array_get_dec)
    | fail)))

def d_law_tape : Def := ⟨"_law_tape", ["_law_script", "_law_at"], ["_law_script", "_law_at", "_law_cell"],
  .cons (.asg (.name 2) (.var 1))
    (.cons (.ife (.cmp .gt (.bi .len (.cons (.var 0) .nil)) (.con (.int 0))) (.cons (.asg (.name 2) (.bin .add (.idx (.var 0) (.bin .mod (.var 1) (.bi .len (.cons (.var 0) .nil)))) (.bin .fdiv (.var 1) (.bi .len (.cons (.var 0) .nil))))) .nil) (.nil))
    (.cons (.ret (.dct (.cons (.con (.str "cell")) (.cons (.var 2) (.cons (.con (.str "left")) (.cons (.bi .max2 (.cons (.con (.int 0)) (.cons (.bin .sub (.var 2) (.bin .pow (.con (.int 10)) (.con (.int 18)))) .nil))) (.cons (.con (.str "turn")) (.cons (.con (.int 0)) .nil)))))))) .nil))⟩

def d_law_pick : Def := ⟨"_law_pick", ["_law_tape_here", "_law_many"], ["_law_tape_here", "_law_many", "_law_turn", "_law_found", "_law_stirred"],
  .cons (.asg (.name 2) (.bin .add (.idxD (.var 0) (.con (.str "turn"))) (.con (.int 1))))
    (.cons (.asg (.subD (.var 0) (.con (.str "turn"))) (.var 2))
    (.cons (.ife (.cmp .gt (.idxD (.var 0) (.con (.str "left"))) (.con (.int 0))) (.cons (.asg (.name 3) (.bin .mod (.idxD (.var 0) (.con (.str "left"))) (.var 1))) (.cons (.asg (.subD (.var 0) (.con (.str "left"))) (.bin .fdiv (.idxD (.var 0) (.con (.str "left"))) (.var 1))) (.cons (.ret (.var 3)) .nil))) (.nil))
    (.cons (.asg (.name 4) (.bin .mul (.bin .add (.bin .add (.bin .mod (.idxD (.var 0) (.con (.str "cell"))) (.con (.int 2147483647))) (.bin .mul (.bin .mul (.con (.int 31)) (.var 2)) (.var 2))) (.con (.int 1))) (.con (.int 48271))))
    (.cons (.asg (.name 4) (.bin .mul (.bin .add (.bin .mod (.var 4) (.con (.int 2147483629))) (.bin .mul (.con (.int 7)) (.var 2))) (.con (.int 69621))))
    (.cons (.ret (.bin .mod (.bin .fdiv (.bin .mod (.var 4) (.con (.int 2147483587))) (.con (.int 7))) (.var 1))) .nil)))))⟩

def d_law_cycle : Def := ⟨"_law_cycle", ["_law_many"], ["_law_many", "_law_place"],
  .cons (.ret (.bi .tuple (.cons (.comp (.bin .mod (.bin .add (.var 1) (.con (.int 1))) (.var 0)) (.name 1) (.rng1 (.var 0)) .none [("_law_place", 1)]) .nil))) .nil⟩

def d_law_perms (i_law_pick : Nat) (i_law_cycle : Nat) : Def := ⟨"_law_perms", ["_law_tape_here", "_law_great"], ["_law_tape_here", "_law_great", "_law_way", "_law_many", "_law_menu", "_law_place"],
  .cons (.asg (.name 2) (.call i_law_pick (.cons (.var 0) (.cons (.con (.int 8)) .nil))))
    (.cons (.ife (.cmp .lt (.var 2) (.con (.int 2))) (.cons (.ret (.lst (.cons (.call i_law_cycle (.cons (.bin .add (.con (.int 1)) (.call i_law_pick (.cons (.var 0) (.cons (.con (.int 10)) .nil)))) .nil)) .nil))) .nil) (.nil))
    (.cons (.ife (.cmp .lt (.var 2) (.con (.int 4))) (.cons (.asg (.name 3) (.bin .add (.con (.int 3)) (.call i_law_pick (.cons (.var 0) (.cons (.con (.int 4)) .nil))))) (.cons (.ret (.lst (.cons (.call i_law_cycle (.cons (.var 3) .nil)) (.cons (.bi .tuple (.cons (.comp (.bin .mod (.neg (.var 5)) (.var 3)) (.name 5) (.rng1 (.var 3)) .none [("_law_place", 5)]) .nil)) .nil)))) .nil)) (.nil))
    (.cons (.asg (.name 4) (.cell (.lst (.cons (.lst (.cons (.tup (.cons (.con (.int 1)) (.cons (.con (.int 0)) (.cons (.con (.int 2)) (.cons (.con (.int 3)) .nil))))) (.cons (.tup (.cons (.con (.int 0)) (.cons (.con (.int 1)) (.cons (.con (.int 3)) (.cons (.con (.int 2)) .nil))))) .nil))) (.cons (.lst (.cons (.tup (.cons (.con (.int 1)) (.cons (.con (.int 0)) (.cons (.con (.int 2)) (.cons (.con (.int 3)) (.cons (.con (.int 4)) (.cons (.con (.int 5)) .nil))))))) (.cons (.tup (.cons (.con (.int 0)) (.cons (.con (.int 1)) (.cons (.con (.int 3)) (.cons (.con (.int 4)) (.cons (.con (.int 5)) (.cons (.con (.int 2)) .nil))))))) .nil))) .nil)))))
    (.cons (.expr (.app (.var 4) (.lst (.cons (.tup (.cons (.con (.int 1)) (.cons (.con (.int 2)) (.cons (.con (.int 0)) (.cons (.con (.int 3)) .nil))))) (.cons (.tup (.cons (.con (.int 1)) (.cons (.con (.int 0)) (.cons (.con (.int 3)) (.cons (.con (.int 2)) .nil))))) .nil)))))
    (.cons (.expr (.app (.var 4) (.lst (.cons (.tup (.cons (.con (.int 1)) (.cons (.con (.int 2)) (.cons (.con (.int 3)) (.cons (.con (.int 0)) (.cons (.con (.int 5)) (.cons (.con (.int 6)) (.cons (.con (.int 7)) (.cons (.con (.int 4)) .nil))))))))) (.cons (.tup (.cons (.con (.int 4)) (.cons (.con (.int 7)) (.cons (.con (.int 6)) (.cons (.con (.int 5)) (.cons (.con (.int 2)) (.cons (.con (.int 1)) (.cons (.con (.int 0)) (.cons (.con (.int 3)) .nil))))))))) .nil)))))
    (.cons (.expr (.app (.var 4) (.lst (.cons (.tup (.cons (.con (.int 1)) (.cons (.con (.int 2)) (.cons (.con (.int 0)) (.cons (.con (.int 3)) (.cons (.con (.int 4)) (.cons (.con (.int 5)) (.cons (.con (.int 6)) .nil)))))))) (.cons (.tup (.cons (.con (.int 0)) (.cons (.con (.int 2)) (.cons (.con (.int 1)) (.cons (.con (.int 4)) (.cons (.con (.int 5)) (.cons (.con (.int 6)) (.cons (.con (.int 3)) .nil)))))))) .nil)))))
    (.cons (.expr (.app (.var 4) (.lst (.cons (.tup (.cons (.con (.int 1)) (.cons (.con (.int 2)) (.cons (.con (.int 0)) (.cons (.con (.int 3)) (.cons (.con (.int 4)) (.cons (.con (.int 5)) .nil))))))) (.cons (.tup (.cons (.con (.int 0)) (.cons (.con (.int 1)) (.cons (.con (.int 2)) (.cons (.con (.int 4)) (.cons (.con (.int 5)) (.cons (.con (.int 3)) .nil))))))) .nil)))))
    (.cons (.ife (.var 1) (.cons (.asg (.name 4) (.cell (.bin .add (.var 4) (.lst (.cons (.lst (.cons (.tup (.cons (.con (.int 1)) (.cons (.con (.int 2)) (.cons (.con (.int 3)) (.cons (.con (.int 4)) (.cons (.con (.int 0)) .nil)))))) (.cons (.tup (.cons (.con (.int 0)) (.cons (.con (.int 2)) (.cons (.con (.int 4)) (.cons (.con (.int 1)) (.cons (.con (.int 3)) .nil)))))) .nil))) (.cons (.lst (.cons (.tup (.cons (.con (.int 1)) (.cons (.con (.int 2)) (.cons (.con (.int 3)) (.cons (.con (.int 0)) .nil))))) (.cons (.tup (.cons (.con (.int 1)) (.cons (.con (.int 0)) (.cons (.con (.int 2)) (.cons (.con (.int 3)) .nil))))) .nil))) .nil)))))) (.cons (.expr (.app (.var 4) (.lst (.cons (.tup (.cons (.con (.int 1)) (.cons (.con (.int 2)) (.cons (.con (.int 3)) (.cons (.con (.int 4)) (.cons (.con (.int 5)) (.cons (.con (.int 6)) (.cons (.con (.int 0)) .nil)))))))) (.cons (.tup (.cons (.con (.int 0)) (.cons (.con (.int 2)) (.cons (.con (.int 4)) (.cons (.con (.int 6)) (.cons (.con (.int 1)) (.cons (.con (.int 3)) (.cons (.con (.int 5)) .nil)))))))) .nil))))) .nil)) (.nil))
    (.cons (.ret (.idx (.var 4) (.call i_law_pick (.cons (.var 0) (.cons (.bi .len (.cons (.var 4) .nil)) .nil))))) .nil)))))))))⟩

def d_law_after : Def := ⟨"_law_after", ["_law_one", "_law_other"], ["_law_one", "_law_other", "_law_place"],
  .cons (.ret (.bi .tuple (.cons (.comp (.idx (.var 0) (.var 2)) (.name 2) (.val (.var 1)) .none [("_law_place", 2)]) .nil))) .nil⟩

def d_law_things (i_law_after : Nat) : Def := ⟨"_law_things", ["_law_perms_here"], ["_law_perms_here", "_law_found", "_law_line", "_law_here", "_law_perm", "_law_later"],
  .cons (.asg (.name 1) (.cell (.lst (.cons (.rgv true .none (.bi .len (.cons (.idx (.var 0) (.con (.int 0))) .nil))) .nil))))
    (.cons (.asg (.name 2) (.cell (.bi .list (.cons (.var 1) .nil))))
    (.cons (.while_ (.cmp .ne (.var 2) (.lst (.nil))) (.cons (.asg (.name 3) (.pop (.var 2))) (.cons (.for_ (.name 4) (.val (.var 0)) (.cons (.asg (.name 5) (.call i_law_after (.cons (.var 3) (.cons (.var 4) .nil)))) (.cons (.ife (.isin true (.var 5) (.var 1)) (.cons (.expr (.app (.var 1) (.var 5))) (.cons (.expr (.app (.var 2) (.var 5))) .nil)) (.nil)) .nil))) .nil)))
    (.cons (.ret (.var 1)) .nil)))⟩

def d_law_group (i_law_after : Nat) (i_law_pick : Nat) (i_law_things : Nat) (i_law_perms : Nat) : Def := ⟨"_law_group", ["_law_tape_here", "_law_great"], ["_law_tape_here", "_law_great", "_law_things_here", "_law_left", "_law_order", "_law_numbers", "_law_k", "_law_other", "_law_one"],
  .cons (.asg (.name 2) (.call i_law_things (.cons (.call i_law_perms (.cons (.var 0) (.cons (.var 1) .nil))) .nil)))
    (.cons (.asg (.name 3) (.cell (.slc (.var 2) (.some (.con (.int 1))) .none)))
    (.cons (.asg (.name 4) (.cell (.slc (.var 2) .none (.some (.con (.int 1))))))
    (.cons (.while_ (.cmp .ne (.var 3) (.lst (.nil))) (.cons (.expr (.app (.var 4) (.popAt (.var 3) (.call i_law_pick (.cons (.var 0) (.cons (.bi .len (.cons (.var 3) .nil)) .nil)))))) .nil))
    (.frz 4 (.cons (.asg (.name 5) (.cell (.emp true)))
    (.cons (.for_ (.name 6) (.rng1 (.bi .len (.cons (.var 4) .nil))) (.cons (.asg (.subD (.var 5) (.idx (.var 4) (.var 6))) (.var 6)) .nil))
    (.cons (.ret (.bi .tuple (.cons (.comp (.bi .tuple (.cons (.comp (.idxD (.var 5) (.call i_law_after (.cons (.var 8) (.cons (.var 7) .nil)))) (.name 7) (.val (.var 4)) .none [("_law_other", 7)]) .nil)) (.name 8) (.val (.var 4)) .none [("_law_one", 8)]) .nil))) .nil)))))))⟩

def d_law_part : Def := ⟨"_law_part", ["_law_group_here", "_law_things_here"], ["_law_group_here", "_law_things_here", "_law_found", "_law_line", "_law_here", "_law_one", "_law_later"],
  .cons (.asg (.name 2) (.cell (.dct (.cons (.con (.int 0)) (.cons (.con (.bool true)) .nil)))))
    (.cons (.asg (.name 3) (.cell (.lst (.cons (.con (.int 0)) .nil))))
    (.cons (.while_ (.cmp .ne (.var 3) (.lst (.nil))) (.cons (.asg (.name 4) (.pop (.var 3))) (.cons (.for_ (.name 5) (.val (.var 1)) (.cons (.asg (.name 6) (.idx (.idx (.var 0) (.var 4)) (.var 5))) (.cons (.ife (.isinD true (.var 6) (.var 2)) (.cons (.asg (.subD (.var 2) (.var 6)) (.con (.bool true))) (.cons (.expr (.app (.var 3) (.var 6))) .nil)) (.nil)) .nil))) .nil)))
    (.cons (.ret (.bi .tuple (.cons (.dks true (.var 2)) .nil))) .nil)))⟩

def d_law_some (i_law_pick : Nat) : Def := ⟨"_law_some", ["_law_tape_here", "_law_group_here"], ["_law_tape_here", "_law_group_here", "_law_k"],
  .cons (.ret (.comp (.call i_law_pick (.cons (.var 0) (.cons (.bi .len (.cons (.var 1) .nil)) .nil))) (.name 2) (.rng1 (.call i_law_pick (.cons (.var 0) (.cons (.con (.int 3)) .nil)))) .none [("_law_k", 2)])) .nil⟩

def d_law_any_part (i_law_part : Nat) (i_law_some : Nat) : Def := ⟨"_law_any_part", ["_law_tape_here", "_law_group_here"], ["_law_tape_here", "_law_group_here"],
  .cons (.ret (.call i_law_part (.cons (.var 1) (.cons (.call i_law_some (.cons (.var 0) (.cons (.var 1) .nil))) .nil)))) .nil⟩

/-! stores: what was there, and own cells behind it -/
section
variable {s r : Store} {a b c d x : Cell} {n : Nat}
theorem sg0 (h : s.length = n) : (s ++ a :: r)[n]? = some a := by subst h; simp
theorem sg1 (h : s.length + 1 = n) : (s ++ a :: b :: r)[n]? = some b := by subst h; simp
theorem sg2 (h : s.length + 2 = n) : (s ++ a :: b :: c :: r)[n]? = some c := by subst h; simp
theorem sg3 (h : s.length + 3 = n) : (s ++ a :: b :: c :: d :: r)[n]? = some d := by subst h; simp
theorem sgl (h : n < s.length) : (s ++ r)[n]? = s[n]? := List.getElem?_append_left h
theorem ss0 (h : s.length = n) : (s ++ a :: r).set n x = s ++ x :: r := by subst h; simp
theorem ss1 (h : s.length + 1 = n) : (s ++ a :: b :: r).set n x = s ++ a :: x :: r := by subst h; simp [List.set_append]
theorem ss2 (h : s.length + 2 = n) : (s ++ a :: b :: c :: r).set n x = s ++ a :: b :: x :: r := by subst h; simp [List.set_append]
theorem ss3 (h : s.length + 3 = n) : (s ++ a :: b :: c :: d :: r).set n x = s ++ a :: b :: c :: x :: r := by subst h; simp [List.set_append]
theorem ssl (h : n < s.length) : (s ++ r).set n x = s.set n x ++ r := List.set_append_left _ _ h
theorem stk (h : s.length = n) : (s ++ r).take n = s := by subst h; simp
theorem sas {t : Store} : s ++ r ++ t = s ++ (r ++ t) := List.append_assoc ..
theorem sal : (s ++ r).length = s.length + r.length := List.length_append
theorem lts {i : Nat} {c0 : Cell} (h : s[i]? = some c0) : i < s.length := (List.getElem?_eq_some_iff.mp h).1
theorem sga {c0 : Cell} (h : s[n]? = some c0) : (s ++ r)[n]? = some c0 := by rw [List.getElem?_append_left (lts h), h]
end
section
variable {Xp : Exc → Store → Prop} {P : D → Store → Prop} {s r : Store} {a b c : Cell} {n m : Nat} {xs : List PyData} {t : Bool} {kvs : List (PyData × PyData)}
theorem lv (h : s.length = n) (hm : n ≤ m) (he : (s ++ r)[m]? = some (.lst xs)) : wp Xp (leave n (.ref m)) (s ++ r) P ↔ P (.newL xs) s := by
  have e : leave n (.ref m) (s ++ r) = .ok (.newL xs) s := by
    rw [leave_hi (by omega), he]
    dsimp only
    rw [stk h]
  unfold wp
  rw [e]
theorem lvD (h : s.length = n) (hm : n ≤ m) (he : (s ++ r)[m]? = some (.dct t kvs)) : wp Xp (leave n (.ref m)) (s ++ r) P ↔ P (.newD t kvs) s := by
  have e : leave n (.ref m) (s ++ r) = .ok (.newD t kvs) s := by
    rw [leave_hi (by omega), he]
    dsimp only
    rw [stk h]
  unfold wp
  rw [e]
theorem lv0 (h : s.length = n) : wp Xp (leave n (.ref n)) (s ++ .lst xs :: r) P ↔ P (.newL xs) s := lv h (by omega) (sg0 h)
theorem lv1 (h : s.length = n) : wp Xp (leave n (.ref (n + 1))) (s ++ a :: .lst xs :: r) P ↔ P (.newL xs) s := lv h (by omega) (sg1 (by omega))
theorem lv2 (h : s.length = n) : wp Xp (leave n (.ref (n + 2))) (s ++ a :: b :: .lst xs :: r) P ↔ P (.newL xs) s := lv h (by omega) (sg2 (by omega))
theorem lvD0 (h : s.length = n) : wp Xp (leave n (.ref n)) (s ++ .dct t kvs :: r) P ↔ P (.newD t kvs) s := lvD h (by omega) (sg0 h)
theorem lvD1 (h : s.length = n) : wp Xp (leave n (.ref (n + 1))) (s ++ a :: .dct t kvs :: r) P ↔ P (.newD t kvs) s := lvD h (by omega) (sg1 (by omega))
end
def SA := And.intro @lv0 <| And.intro @lv1 <| And.intro @lv2 <| And.intro @lvD0 <| And.intro @lvD1 <| And.intro @sg0 <| And.intro @sg1 <| And.intro @sg2 <| And.intro @sg3 <| And.intro @sgl <| And.intro @ss0 <| And.intro @ss1 <| And.intro @ss2 <| And.intro @ss3 <| And.intro @ssl <| And.intro @stk <| And.intro @sas <| @sal
def tpK (c l t : Int) : List (PyData × PyData) := [(.str "cell", .int c), (.str "left", .int l), (.str "turn", .int t)]
/-- a tape, at most n draws on -/
def TpC (n : Nat) (c : Cell) : Prop := ∃ a l t : Int, c = .dct false (tpK a l t) ∧ 0 ≤ l ∧ 0 ≤ t ∧ t ≤ n
theorem TpC.mono {n m : Nat} {c : Cell} (h : TpC n c) (l : n ≤ m) : TpC m c := by
  obtain ⟨a, x, t, e, h1, h2, h3⟩ := h
  exact ⟨a, x, t, e, h1, h2, by omega⟩
section
variable {a l t v : Int}
theorem tg_turn : dGet (tpK a l t) (.str "turn") = some (.int t) := rfl
theorem tg_left : dGet (tpK a l t) (.str "left") = some (.int l) := rfl
theorem tg_cell : dGet (tpK a l t) (.str "cell") = some (.int a) := rfl
theorem tp_turn : dPut (.str "turn") (.int v) (tpK a l t) = tpK a l v := rfl
theorem tp_left : dPut (.str "left") (.int v) (tpK a l t) = tpK a v t := rfl
theorem tp_new : dPuts [] [(.str "cell", .int a), (.str "left", .int l), (.str "turn", .int t)] = tpK a l t := rfl
theorem tp_pairs : pairsOf [.str "cell", .int a, .str "left", .int l, .str "turn", .int t] = some [(.str "cell", .int a), (.str "left", .int l), (.str "turn", .int t)] := rfl
theorem tp_len : (tpK a l t).length = 3 := rfl
end
theorem o_max {i j : Int} : biV .max2 [.int i, .int j] = some (.dat (.int (if j > i then j else i))) := rfl
theorem dct_eq {a : Bool} {b : List (PyData × PyData)} {R : Bool → List (PyData × PyData) → Prop} : (∃ t kvs, Cell.dct a b = Cell.dct t kvs ∧ R t kvs) ↔ R a b := by
  constructor
  · rintro ⟨t, kvs, e, h⟩
    cases e
    exact h
  · exact fun h => ⟨_, _, rfl, h⟩
def TB := And.intro @dct_eq <| And.intro @tg_turn <| And.intro @tg_left <| And.intro @tg_cell <| And.intro @tp_turn <| And.intro @tp_left <| And.intro @tp_new <| And.intro @tp_pairs <| And.intro @tp_len <| And.intro @o_max <| @o_get
section
variable {Xp : Exc → Store → Prop} {P : List Def} {w k f : Nat} {st : Store} {Q : D → Store → Prop}
theorem tape_c (hf : P[f]? = some d_law_tape) (hk : 0 < k) {ns : List Int} {j : Nat} (hj : j ≤ 100) (hn : ns.length ≤ 63)
    (h : ∀ kvs, TpC 0 (.dct false kvs) → Q (.newD false kvs) st) : wp Xp (callF P w k f [.dat (.list (ns.map .int)), .dat (.int j)]) st Q := by
  have fin : ∀ a : Int, Q (.newD false (tpK a (if a - 10 ^ 18 > 0 then a - 10 ^ 18 else 0) 0)) st := fun a => h _ ⟨a, _, 0, rfl, by split <;> omega, by omega, by omega⟩
  refine wp_call' hf rfl (by omega) ?_; simp only [d_law_tape, List.map_cons, List.map_nil, List.length_cons, List.length_nil]; rw [wp_blk]
  sizeOf_list_dec
  · rename_i hl
    have h1 := Int.emod_nonneg (j : Int) (b := ns.length) (by omega)
    have h2 := Int.emod_lt_of_pos (j : Int) (b := ns.length) (by omega)
    (repeat' (first | simp? only [TB, Nat.reduceLeDiff] | rw [rst_cons] | rw [wp_blk] | rw [rst_frz] | rw [wp_frz] | (refine And.intro (fun _ => ?_) (fun _ => ?_)) | fail))
    exact fin _
  · (repeat' (first | simp? only [TB, Nat.reduceLeDiff] | rw [rst_cons] | rw [wp_blk] | rw [rst_frz] | rw [wp_frz] | (refine And.intro (fun _ => ?_) (fun _ => ?_)) | fail))
    exact fin _
theorem pick_c (hf : P[f]? = some d_law_pick) (hk : 0 < k) {i n : Nat} {c0 : Cell} (hi : st[i]? = some c0) (hF : TpC n c0) {m : Int} (h0 : 0 < m) (hm : m < 2 ^ 60) (hn : n ≤ 2 ^ 30)
    (h : ∀ v c, 0 ≤ v → v < m → TpC (n + 1) c → Q (.dat (.int v)) (st.set i c)) : wp Xp (callF P w k f [.ref i, .dat (.int m)]) st Q := by
  obtain ⟨a, l, t, rfl, l0, t0, t1⟩ := hF
  have hi1 : ∀ c, (st.set i c)[i]? = some c := fun c => gset hi
  refine wp_call' hf rfl (by omega) ?_; simp only [d_law_pick, List.map_cons, List.map_nil, List.length_cons, List.length_nil]; rw [wp_blk]
  have b0 : 0 ≤ 31 * (t + 1) * (t + 1) := Int.mul_nonneg (by omega) (by omega)
  have b1 : 31 * (t + 1) * (t + 1) ≤ 2 ^ 40 * 2 ^ 31 := Int.mul_le_mul (by omega) (by omega) (by omega) (by omega)
  have c1 := Int.emod_nonneg a (b := 2147483647) (by omega)
  have c2 := Int.emod_lt_of_pos a (b := 2147483647) (by omega)
  generalize hx : 31 * (t + 1) * (t + 1) = x at *
  (repeat' (first | simp? only [TB, hi, hi1, hx, Nat.reduceLeDiff] | rw [rst_cons] | rw [wp_blk] | rw [rst_frz] | rw [wp_frz] | (refine And.intro (fun _ => ?_) (fun _ => ?_)) | fail))
  · exact h _ _ (Int.emod_nonneg _ (by omega)) (Int.emod_lt_of_pos _ h0) ⟨_, _, _, rfl, Int.ediv_nonneg l0 (by omega), by omega, by omega⟩
  · exact h _ _ (Int.emod_nonneg _ (by omega)) (Int.emod_lt_of_pos _ h0) ⟨_, _, _, rfl, l0, by omega, by omega⟩
def tupN (p : Pm) : PyData := .tuple (p.map natD)
theorem natMap (p : Pm) : p.map natD = (p.map fun k : Nat => (k : Int)).map .int := by rw [List.map_map]; rfl
theorem o_gn {p : Pm} {x : Nat} (h : x < p.length) : idxV (.tuple (p.map natD)) (.int x) = some (natD (p.getD x 0)) := by
  rw [o_ixt (by omega) (by rw [List.length_map]; omega), Int.toNat_natCast, List.getElem?_map, List.getElem?_eq_getElem h, List.getD_eq_getElem?_getD, List.getElem?_eq_getElem h]
  rfl
theorem cycle_w (hf : P[f]? = some d_law_cycle) (hk : 0 < k) {m : Nat} (h0 : 0 < m) (h1 : m ≤ 100) : wp Xp (callF P w k f [.dat (.int m)]) st Q ↔ Q (.dat (tupN (cyc m))) st := runs_iff fun R hR => by
  refine wp_call' hf rfl (by omega) ?_; simp only [d_law_cycle, List.map_cons, List.map_nil, List.length_cons, List.length_nil]; rw [wp_blk]
  sizeOf_list_dec
  refine lc_map (g := fun k : Nat => natD ((k + 1) % m)) (by first | omega | (simp only [List.length_range, List.length_map, List.length_replicate, List.length_append, List.length_cons, List.length_nil]; omega)) (fun x hx R h => ?_) ?_
  · array_get_dec
    exact h
  · array_get_dec
    unfold tupN cyc at hR
    rw [List.map_map] at hR
    exact hR
theorem after_w (hf : P[f]? = some d_law_after) (hk : 0 < k) {p q : Pm} (hq : ∀ k ∈ q, k < p.length) (hl : q.length ≤ 1000) : wp Xp (callF P w k f [.dat (tupN p), .dat (tupN q)]) st Q ↔ Q (.dat (tupN (aft p q))) st := runs_iff fun R hR => by
  unfold tupN
  refine wp_call' hf rfl (by omega) ?_; simp only [d_law_after, List.map_cons, List.map_nil, List.length_cons, List.length_nil]; rw [wp_blk]
  sizeOf_list_dec
  refine lc_map (g := fun k : Nat => natD (p.getD k 0)) (by first | omega | (simp only [List.length_range, List.length_map, List.length_replicate, List.length_append, List.length_cons, List.length_nil]; omega)) (fun x hx R h => ?_) ?_
  · have := hq x hx
    simp? only [show natD x = .int x from rfl, o_gn this]
    exact h
  · array_get_dec
    unfold tupN aft at hR
    rw [List.map_map] at hR
    exact hR
theorem PS_1 {v : Nat} (h : v < 10) : [cyc (1 + v)] ∈ PS := by
  unfold PS
  simp only [List.mem_append, List.mem_map, List.mem_range]
  exact .inl (.inl (.inl ⟨v, h, rfl⟩))
theorem PS_2 {v : Nat} (h : v < 4) : [cyc (3 + v), neg (3 + v)] ∈ PS := by
  unfold PS
  simp only [List.mem_append, List.mem_map, List.mem_range]
  exact .inl (.inl (.inr ⟨v, h, rfl⟩))
theorem PS_3 {p : List Pm} (h : p ∈ menu ++ menu2) : p ∈ PS := by
  unfold PS
  simp only [List.mem_append] at h ⊢
  rcases h with h | h
  · exact .inl (.inr h)
  · exact .inr h
theorem neg_at {m x : Nat} (h : x < m) : -(x : Int) % (m : Int) = (((m - x) % m : Nat) : Int) := by
  rw [Int.natCast_emod, Int.natCast_sub (by omega), show (m : Int) - x = -(x : Int) + m * 1 by omega, Int.add_mul_emod_self_left]
theorem pick_menu {l : List (List Pm)} {v : Int} (h0 : 0 ≤ v) (h1 : v < l.length) {R : PyData → Prop} (h : ∀ ps ∈ l, R (.list (ps.map tupN))) : ∃ d, idxV (.list (l.map fun ps => .list (ps.map tupN))) (.int v) = some d ∧ R d := by
  have hv : v.toNat < l.length := by omega
  rw [o_ix h0 (by rw [List.length_map]; omega), List.getElem?_map, List.getElem?_eq_getElem hv]
  exact ⟨_, rfl, h _ (List.getElem_mem hv)⟩
theorem perms_c {ip ic : Nat} (hf : P[f]? = some (d_law_perms ip ic)) (h1 : P[ip]? = some d_law_pick) (h2 : P[ic]? = some d_law_cycle) (hk : 1 < k) {i n : Nat} {c0 : Cell} (hi : st[i]? = some c0) (hF : TpC n c0) (hn : n + 10 ≤ 2 ^ 30) {b : Bool}
    (h : ∀ ps ∈ PS, ∀ d c, TpC (n + 2) c → keep d = .dat (.list (ps.map tupN)) → Q d (st.set i c)) : wp Xp (callF P w k f [.ref i, .dat (.bool b)]) st Q := by
  refine wp_call' hf rfl (by omega) ?_; simp only [d_law_perms, List.map_cons, List.map_nil, List.length_cons, List.length_nil]; rw [wp_blk]
  sizeOf_list_dec
  refine pick_c h1 (by omega) hi hF (by omega) (by omega) (by omega) fun v c v0 v1 hF => ?_
  sizeOf_list_dec
  · refine pick_c h1 (by omega) (gset hi) hF (by omega) (by omega) (by omega) fun v c v0 v1 hF => ?_
    obtain ⟨v, rfl⟩ := Int.eq_ofNat_of_zero_le v0
    array_get_dec
    rw [show (1 + (v : Int)) = ((1 + v : Nat) : Int) by omega]
    simp? only [cycle_w h2]
    exact h _ (PS_1 (by omega)) _ c hF rfl
  · refine pick_c h1 (by omega) (gset hi) hF (by omega) (by omega) (by omega) fun v c v0 v1 hF => ?_
    obtain ⟨v, rfl⟩ := Int.eq_ofNat_of_zero_le v0
    array_get_dec
    rw [show (3 + (v : Int)) = ((3 + v : Nat) : Int) by omega]
    sizeOf_list_dec
    simp? only [cycle_w h2]
    refine lc_map (g := fun x : Nat => natD ((3 + v - x) % (3 + v))) (by first | omega | (simp only [List.length_range, List.length_map, List.length_replicate, List.length_append, List.length_cons, List.length_nil]; omega)) (fun x hx R h => ?_) ?_
    · have := List.mem_range.mp hx
      simp? only [neg_at this]
      exact h
    · array_get_dec
      have := h _ (PS_2 (v := v) (by omega)) (.newL [tupN (cyc (3 + v)), tupN (neg (3 + v))]) c hF rfl
      simp only [tupN, neg, List.map_map] at this
      exact this
  · have hl := lts hi
    (repeat' (first | simp? only [SA] | rw [rst_cons] | rw [wp_blk] | rw [rst_frz] | rw [wp_frz] | (refine And.intro (fun _ => ?_) (fun _ => ?_)) | fail))
    · refine pick_c h1 (by omega) (sga (gset hi)) hF (by omega) (by omega) (by omega) fun v c v0 v1 hF => ?_
      (repeat' (first | simp? only [SA] | rw [rst_cons] | rw [wp_blk] | rw [rst_frz] | rw [wp_frz] | (refine And.intro (fun _ => ?_) (fun _ => ?_)) | fail))
      exact pick_menu (l := menu ++ menu2) v0 v1 fun ps hps => h ps (PS_3 hps) _ c hF rfl
    · refine pick_c h1 (by omega) (sga (gset hi)) hF (by omega) (by omega) (by omega) fun v c v0 v1 hF => ?_
      (repeat' (first | simp? only [SA] | rw [rst_cons] | rw [wp_blk] | rw [rst_frz] | rw [wp_frz] | (refine And.intro (fun _ => ?_) (fun _ => ?_)) | fail))
      exact pick_menu (l := menu) v0 v1 fun ps hps => h ps (PS_3 (List.mem_append_left _ hps)) _ c hF rfl
end
end MP
end B1

section B2
set_option Elab.async false
set_option linter.all false
set_option maxRecDepth 100000
set_option autoImplicit false
set_option maxHeartbeats 2000000

/-! B2: what perms make. -/
namespace MP
open PySem
local macro_rules
  | `(tactic| array_get_dec) => `(tactic| simp (disch := first | assumption | omega | (simp only [List.length_replicate, List.length_map, List.length_range, List.length_append, List.length_cons, List.length_nil, List.length_set, List.length_take, List.length_drop, List.length_dropLast] <;> omega) | fail) only [WB, tgsLen, exists_eq_left', exists_eq_left, exists_eq', Option.some.injEq, Option.map_some, Option.bind_some, List.getElem?_cons_zero, List.getElem?_cons_succ, List.set_cons_zero, List.set_cons_succ, List.any_cons, List.any_nil, List.map_cons, List.map_nil, List.cons_append, List.nil_append, List.length_cons, List.length_nil, PyData.int.injEq, PyData.bool.injEq, PyData.str.injEq, PyData.list.injEq, PyData.tuple.injEq, D.dat.injEq, D.ref.injEq, Cell.lst.injEq, List.cons.injEq, Bool.not_true, Bool.not_false, Bool.or_false, Bool.or_true, Bool.false_or, Bool.true_or, Bool.and_true, Bool.true_and, Bool.and_false, Bool.false_and, decide_true, decide_false, decide_eq_true_eq, decide_eq_false_iff_not, true_and, and_true, false_and, and_false, Bool.false_eq_true, Bool.true_eq_false, reduceCtorEq, if_true, if_false, ite_true, ite_false, true_implies, false_implies, implies_true, forall_const, forall_eq', forall_eq, id, Bool.not_eq_true', Bool.not_eq_false', wipeE, Nat.zero_le, List.length_set, Nat.reduceAdd, Nat.reduceSub, List.replicate_succ, List.replicate_zero, Int.reduceToNat, Int.toNat_one, Int.toNat_zero, List.length_map, List.length_range, Int.toNat_natCast, TrnK, and_assoc, Option.getD_none, Option.getD_some, Int.sub_zero, cut_hi, cut_lo, cut_last, List.drop_succ_cons, List.drop_zero])
local macro_rules
  | `(tactic| sizeOf_list_dec) => `(tactic| ((try array_get_dec); repeat' (first
    | (rw [rst_cons]; array_get_dec)
    | (rw [wp_blk]; array_get_dec)
    | (rw [rst_frz]; array_get_dec)
    | (rw [wp_frz]; array_get_dec)
    | (refine And.intro (fun _ => ?_) (fun _ => ?_) <;> try array_get_dec)
    | fail)))

theorem shal_N (n : Nat) (p : Pm) : shalAll n (p.map natD) = true := by rw [natMap]; exact shalAll_ints _ _
theorem shal_T (n : Nat) (p : Pm) : shal (n + 1) (tupN p) = true := shal_N n p
theorem shal_Ts (n : Nat) : ∀ l : List Pm, shalAll (n + 1) (l.map tupN) = true
  | [] => rfl
  | p :: l => by rw [List.map_cons, shalAll, shal_T, shal_Ts n l]; rfl
theorem eqv_N (a b : Pm) : PyData.eqvAll (a.map natD) (b.map natD) = (a == b) := by
  rw [natMap, natMap, eqvAll_ints, Bool.eq_iff_iff, decide_eq_true_eq, beq_iff_eq]
  constructor
  · intro h
    exact List.map_inj_right (fun x y e => Int.ofNat_inj.mp e) |>.mp h
  · rintro rfl
    rfl
theorem eqv_T (a b : Pm) : PyData.eqv (tupN a) (tupN b) = (a == b) := eqv_N a b
theorem o_inP {l : List Pm} {p : Pm} : inV (tupN p) (.list (l.map tupN)) = some (memP l p) := by
  show (if shal 60 (tupN p) && shalAll 60 (l.map tupN) then some ((l.map tupN).any fun y => PyData.eqv y (tupN p)) else none) = _
  rw [shal_T, shal_Ts, List.any_map]
  simp only [Bool.and_self, if_true, Function.comp_def, eqv_T]
  rfl
theorem o_nilS {xs : List PyData} (h : shalAll 59 xs = true) : copV .ne (.list xs) (.list []) = some (!xs.isEmpty) := by
  have h2 : PyData.eqvAll xs [] = xs.isEmpty := by cases xs <;> rfl
  simp only [copV, cmpE, shal, h, shalAll, PyData.eqv, h2, Bool.and_self, if_true]
theorem o_nilP {l : List Pm} : copV .ne (.list (l.map tupN)) (.list []) = some (!l.isEmpty) := by
  rw [o_nilS (shal_Ts _ _), List.isEmpty_map]
theorem o_nilP1 {l : List Pm} {p : Pm} : copV .ne (.list (l.map tupN ++ [tupN p])) (.list []) = some true := by
  have := o_nilP (l := l ++ [p])
  rw [List.map_append, List.map_cons, List.map_nil] at this
  rw [this]
  simp
theorem gl1 {l : List PyData} {x : PyData} : (l ++ [x]).getLast? = some x := by simp
theorem dl1 {l : List PyData} {x : PyData} : (l ++ [x]).dropLast = l := by simp
theorem mapT1 {l : List Pm} {x : Pm} : (l ++ [x]).map tupN = l.map tupN ++ [tupN x] := by simp
theorem len_map {l : List Pm} : (l.map tupN).length = l.length := List.length_map _
theorem foldl_take {α β : Type} (g : β → α → β) (b : β) (l : List α) (n : Nat) (x : α) (h : l[n]? = some x) : (l.take (n + 1)).foldl g b = g ((l.take n).foldl g b) x := by
  rw [List.take_succ, h, List.foldl_append]
  rfl
section
variable {Xp : Exc → Store → Prop} {P : List Def} {w k f : Nat} {st : Store} {Q : D → Store → Prop}
theorem things_w {ia n : Nat} (hf : P[f]? = some (d_law_things ia)) (h1 : P[ia]? = some d_law_after) (hk : 1 < k) (hw : 65 ≤ w) {p : Pm} {r th : List Pm} (hn : p.length = n) (hn2 : n ≤ 10) (hr : r.length ≤ 9)
    (e : thGo (p :: r) 24 [List.range n] [List.range n] = some th) (ok : ∀ q ∈ p :: r, q.length = n ∧ ∀ k ∈ q, k < n) : wp Xp (callF P w k f [.dat (.list (tupN p :: r.map tupN))]) st Q ↔ Q (.newL (th.map tupN)) st := runs_iff fun R hR => by
  have len1 : biV .len [tupN p] = some (.dat (.int n)) := by
    unfold tupN
    rw [o_lenT, List.length_map, hn]
  refine wp_call' hf rfl (by omega) ?_; simp only [d_law_things, List.map_cons, List.map_nil, List.length_cons, List.length_nil]; rw [wp_blk]
  (repeat' (first | simp? only [SA, len1, rgD_t] | rw [rst_cons] | rw [wp_blk] | rw [rst_frz] | rw [wp_frz] | (refine And.intro (fun _ => ?_) (fun _ => ?_)) | fail))
  refine while_by (fun m ρ s => ∃ (g l : List Pm) (x3 x4 x5 : Option D), ρ = [some (.dat (.list (tupN p :: r.map tupN))), some (.ref st.length), some (.ref (st.length + 1)), x3, x4, x5] ∧ s = st ++ [.lst (g.map tupN), .lst (l.map tupN)] ∧ thGo (p :: r) m g l = some th ∧ (∀ q ∈ l, q.length = n) ∧ g.length + 10 * m ≤ 300 ∧ l.length ≤ g.length) 24 (by omega) ⟨[List.range n], [List.range n], none, none, none, rfl, rfl, e, by simp, by simp, by simp⟩ ?_
  clear e
  rintro m ρ1 s1 ⟨g, l, x3, x4, x5, rfl, rfl, e, hl, hb, hb2⟩
  rcases List.eq_nil_or_concat l with rfl | ⟨l, q, rfl⟩
  · have : g = th := by
      cases m with
      | zero => exact Option.some.inj e
      | succ m => exact Option.some.inj e
    subst this
    (repeat' (first | simp? only [SA, o_eqNil0, o_neNil0] | rw [rst_cons] | rw [wp_blk] | rw [rst_frz] | rw [wp_frz] | (refine And.intro (fun _ => ?_) (fun _ => ?_)) | fail))
    exact hR
  · cases m with
    | zero => simp [thGo] at e
    | succ m =>
      rw [List.concat_eq_append] at *
      simp only [thGo, List.getLast?_append, List.getLast?_singleton, Option.some_or, List.dropLast_concat] at e
      have hq := hl q (by simp)
      rw [List.length_append, List.length_singleton] at hb2
      (repeat' (first | simp? only [SA, mapT1, o_nilP1, gl1, dl1] | rw [rst_cons] | rw [wp_blk] | rw [rst_frz] | rw [wp_frz] | (refine And.intro (fun _ => ?_) (fun _ => ?_)) | fail))
      rw [← List.map_cons]
      refine for_by (e := tupN) (l := p :: r) (fun j ρ s => ∃ (g2 l2 : List Pm) (y4 y5 : Option D), ρ = [some (.dat (.list ((p :: r).map tupN))), some (.ref st.length), some (.ref (st.length + 1)), some (.dat (tupN q)), y4, y5] ∧ s = st ++ [.lst (g2.map tupN), .lst (l2.map tupN)] ∧ ((p :: r).take j).foldl (thIn q) (g, l) = (g2, l2) ∧ (∀ q ∈ l2, q.length = n) ∧ g2.length ≤ g.length + j ∧ l2.length ≤ g2.length) ⟨g, l, x4, x5, rfl, rfl, rfl, fun y hy => hl y (by simp [hy]), by omega, by omega⟩ ?_ ?_
      · rintro j x ρ1 s1 hx ⟨g2, l2, y4, y5, rfl, rfl, e2, hl2, hb3, hb4⟩
        have okx := ok x (List.mem_of_getElem? hx)
        have hj : j < (p :: r).length := (List.getElem?_eq_some_iff.mp hx).1
        rw [List.length_cons] at hj
        have ha : (aft q x).length = n := by unfold aft; rw [List.length_map, okx.1]
        have hxq : ∀ k ∈ x, k < q.length := by rw [hq]; exact okx.2
        have e3 := foldl_take (thIn q) (g, l) (p :: r) j x hx
        rw [e2, thIn] at e3
        cases e4 : memP g2 (aft q x)
        · rw [e4] at e3
          (repeat' (first | simp? only [SA, after_w, o_inP, e4, len_map] | rw [rst_cons] | rw [wp_blk] | rw [rst_frz] | rw [wp_frz] | (refine And.intro (fun _ => ?_) (fun _ => ?_)) | fail))
          exact ⟨g2 ++ [aft q x], l2 ++ [aft q x], _, _, rfl, by rw [mapT1, mapT1], e3, fun y hy => by
            rcases List.mem_append.mp hy with hy | hy
            · exact hl2 y hy
            · rw [List.mem_singleton.mp hy]; exact ha, by rw [List.length_append, List.length_singleton]; omega, by simp only [List.length_append, List.length_singleton]; omega⟩
        · rw [e4] at e3
          (repeat' (first | simp? only [SA, after_w, o_inP, e4] | rw [rst_cons] | rw [wp_blk] | rw [rst_frz] | rw [wp_frz] | (refine And.intro (fun _ => ?_) (fun _ => ?_)) | fail))
          exact ⟨g2, l2, _, _, rfl, rfl, e3, hl2, by omega, hb4⟩
      · rintro ρ1 s1 ⟨g2, l2, y4, y5, rfl, rfl, e2, hl2, hb3, hb4⟩
        rw [List.take_length] at e2
        rw [e2] at e
        rw [List.length_cons] at hb3
        array_get_dec
        exact ⟨m, by omega, g2, l2, _, _, _, rfl, rfl, e, hl2, by omega, hb4⟩
end
end MP
end B2

section B3
set_option Elab.async false
set_option linter.all false
set_option maxRecDepth 100000
set_option autoImplicit false
set_option maxHeartbeats 2000000

/-! B3: groups in a drawn order. -/
namespace MP
open PySem
local macro_rules
  | `(tactic| array_get_dec) => `(tactic| simp (disch := first | assumption | omega | (simp only [List.length_replicate, List.length_map, List.length_range, List.length_append, List.length_cons, List.length_nil, List.length_set, List.length_take, List.length_drop, List.length_dropLast] <;> omega) | fail) only [WB, tgsLen, exists_eq_left', exists_eq_left, exists_eq', Option.some.injEq, Option.map_some, Option.bind_some, List.getElem?_cons_zero, List.getElem?_cons_succ, List.set_cons_zero, List.set_cons_succ, List.any_cons, List.any_nil, List.map_cons, List.map_nil, List.cons_append, List.nil_append, List.length_cons, List.length_nil, PyData.int.injEq, PyData.bool.injEq, PyData.str.injEq, PyData.list.injEq, PyData.tuple.injEq, D.dat.injEq, D.ref.injEq, Cell.lst.injEq, List.cons.injEq, Bool.not_true, Bool.not_false, Bool.or_false, Bool.or_true, Bool.false_or, Bool.true_or, Bool.and_true, Bool.true_and, Bool.and_false, Bool.false_and, decide_true, decide_false, decide_eq_true_eq, decide_eq_false_iff_not, true_and, and_true, false_and, and_false, Bool.false_eq_true, Bool.true_eq_false, reduceCtorEq, if_true, if_false, ite_true, ite_false, true_implies, false_implies, implies_true, forall_const, forall_eq', forall_eq, id, Bool.not_eq_true', Bool.not_eq_false', wipeE, Nat.zero_le, List.length_set, Nat.reduceAdd, Nat.reduceSub, List.replicate_succ, List.replicate_zero, Int.reduceToNat, Int.toNat_one, Int.toNat_zero, List.length_map, List.length_range, Int.toNat_natCast, TrnK, and_assoc, Option.getD_none, Option.getD_some, Int.sub_zero, cut_hi, cut_lo, cut_last, List.drop_succ_cons, List.drop_zero])
local macro_rules
  | `(tactic| sizeOf_list_dec) => `(tactic| ((try array_get_dec); repeat' (first
    | (rw [rst_cons]; array_get_dec)
    | (rw [wp_blk]; array_get_dec)
    | (rw [rst_frz]; array_get_dec)
    | (rw [wp_frz]; array_get_dec)
    | (refine And.intro (fun _ => ?_) (fun _ => ?_) <;> try array_get_dec)
    | fail)))

theorem same_ints : ∀ a b : List Int, sameAll (a.map .int) (b.map .int) = decide (a = b)
  | [], [] => rfl
  | [], _ :: _ => by simp [sameAll]
  | _ :: _, [] => by simp [sameAll]
  | x :: a, y :: b => by
    rw [List.map_cons, List.map_cons, sameAll, same, same_ints a b]
    simp
theorem same_T (a b : Pm) : same (tupN a) (tupN b) = (a == b) := by
  show sameAll _ _ = _
  rw [natMap, natMap, same_ints, Bool.eq_iff_iff, decide_eq_true_eq, beq_iff_eq]
  constructor
  · intro h
    exact List.map_inj_right (fun x y e => Int.ofNat_inj.mp e) |>.mp h
  · rintro rfl
    rfl
def numKV (od : List Pm) (j : Nat) : List (PyData × PyData) := (List.range j).map fun k => (tupN (od.getD k []), natD k)
theorem numKV_put {od : List Pm} (nd : od.Nodup) {j : Nat} (h : j < od.length) : dPut (tupN (od.getD j [])) (natD j) (numKV od j) = numKV od (j + 1) := by
  have e : ((numKV od j).any fun p => same p.1 (tupN (od.getD j []))) = false := by
    unfold numKV
    rw [List.any_map, List.any_eq_false]
    intro k hk
    rw [List.mem_range] at hk
    simp only [Function.comp_apply, same_T, beq_iff_eq]
    intro z
    rw [List.getD_eq_getElem?_getD, List.getD_eq_getElem?_getD, List.getElem?_eq_getElem h, List.getElem?_eq_getElem (by omega)] at z
    have := List.pairwise_iff_getElem.mp nd k j (by omega) h hk
    exact this z
  rw [dPut, e]
  unfold numKV
  rw [List.range_succ, List.map_append]
  rfl
theorem numKV_get {od : List Pm} {p : Pm} (h : p ∈ od) : dGet (numKV od od.length) (tupN p) = some (natD (od.idxOf p)) := by
  unfold dGet numKV
  rw [List.find?_map]
  have : (List.range od.length).find? ((fun x : PyData × PyData => same x.1 (tupN p)) ∘ fun k => (tupN (od.getD k []), natD k)) = some (od.idxOf p) := by
    have l := List.idxOf_lt_length_of_mem h
    rw [List.find?_range_eq_some]
    refine ⟨?_, List.mem_range.mpr l, fun j hj => ?_⟩
    · simp only [Function.comp_apply, same_T, beq_iff_eq, List.getD_eq_getElem?_getD]
      rw [List.getElem?_eq_getElem l]
      exact List.getElem_idxOf l
    · simp only [Function.comp_apply, same_T, List.getD_eq_getElem?_getD]
      rw [List.getElem?_eq_getElem (by omega), Bool.not_eq_true', beq_eq_false_iff_ne]
      intro z
      have := List.not_of_lt_findIdx (p := (· == p)) (xs := od) hj
      simp at this
      exact this z
  rw [this]
  rfl
theorem map_rng {α β : Type} (l : List α) (d : α) (g : α → β) : l.map g = (List.range l.length).map fun i => g (l.getD i d) := by
  refine List.ext_getElem (by simp) fun i h1 h2 => ?_
  rw [List.length_map] at h1
  simp [List.getD_eq_getElem?_getD, List.getElem?_eq_getElem h1]
theorem gD_of (od : List Pm) : PyData.tuple (od.map fun a => .tuple (od.map fun b => natD (od.idxOf (aft a b)))) = gD od.length (mOf od) := by
  rw [map_rng od []]
  unfold gD mOf
  refine congrArg _ (List.map_congr_left fun i _ => ?_)
  rw [map_rng od []]
theorem len_numKV (od : List Pm) (j : Nat) : (numKV od j).length = j := by unfold numKV; simp
theorem er_perm {α : Type} {l : List α} {i : Nat} (h : i < l.length) : (l[i] :: l.eraseIdx i).Perm l := by
  have e := List.take_append_drop i l
  rw [List.drop_eq_getElem_cons h] at e
  rw [List.eraseIdx_eq_take_drop_succ]
  refine List.perm_middle.symm.trans ?_
  rw [e]
theorem erT {l : List Pm} {j : Nat} : (l.map tupN).eraseIdx j = (l.eraseIdx j).map tupN := by
  rw [List.eraseIdx_eq_take_drop_succ, List.eraseIdx_eq_take_drop_succ, List.map_append, List.map_take, List.map_drop]
theorem gmT {l : List Pm} {j : Nat} {q : Pm} (h : l[j]? = some q) : (l.map tupN)[j]? = some (tupN q) := by rw [List.getElem?_map, h]; rfl
theorem o_gT {l : List Pm} {j : Nat} (h : j < l.length) : idxV (.list (l.map tupN)) (.int j) = some (tupN (l.getD j [])) := by
  rw [o_ix (by omega) (by rw [List.length_map]; omega), Int.toNat_natCast, List.getElem?_map, List.getElem?_eq_getElem h, List.getD_eq_getElem?_getD, List.getElem?_eq_getElem h]
  rfl
theorem keyOk_N {p : Pm} : keyOk true (tupN p) = true := by
  unfold tupN
  rw [natMap]
  exact keyOk_T
section
variable {Xp : Exc → Store → Prop} {P : List Def} {w k f : Nat} {st : Store} {Q : D → Store → Prop}
/-- how a group comes about -/
def GrX (z : Nat) (m : Nat → Nat → Nat) : Prop := ∃ (ps : List Pm) (p : Pm) (r th od : List Pm), ps ∈ PS ∧ ps = p :: r ∧ thGo ps 24 [List.range p.length] [List.range p.length] = some th ∧ Ths p.length th ∧ od.Perm th ∧ od.head? = some (List.range p.length) ∧ z = od.length ∧ m = mOf od
theorem group_x {ia ip it im ic : Nat} (hf : P[f]? = some (d_law_group ia ip it im)) (h1 : P[ia]? = some d_law_after) (h2 : P[ip]? = some d_law_pick) (h3 : P[it]? = some (d_law_things ia)) (h4 : P[im]? = some (d_law_perms ip ic)) (h5 : P[ic]? = some d_law_cycle) (hk : 2 < k) (hw : 65 ≤ w)
    {i n : Nat} {c0 : Cell} (hi : st[i]? = some c0) (hF : TpC n c0) (hn : n + 100 ≤ 2 ^ 30) {b : Bool}
    (h : ∀ z m c, GrX z m → Grp z m → z ≤ 24 → TpC (n + 40) c → Q (.dat (gD z m)) (st.set i c)) : wp Xp (callF P w k f [.ref i, .dat (.bool b)]) st Q := by
  have hl := lts hi
  refine wp_call' hf rfl (by omega) ?_; simp only [d_law_group, List.map_cons, List.map_nil, List.length_cons, List.length_nil]; rw [wp_blk]
  sizeOf_list_dec
  refine perms_c h4 h2 h5 (by omega) hi hF (by omega) fun ps hps d c hF hd => ?_
  rw [hd]
  obtain ⟨p, r, th, rfl, p10, e, ok, T⟩ := ths_of hps
  obtain ⟨r9, hth⟩ : r.length ≤ 9 ∧ ∃ t, th = List.range p.length :: t := by
    constructor
    · have : ∀ ps ∈ PS, ps.length ≤ 2 := by decide +kernel
      have := this _ hps
      rw [List.length_cons] at this
      omega
    · cases th with
      | nil => exact nomatch T.head
      | cons a t => exact ⟨t, by rw [Option.some.inj T.head]⟩
  obtain ⟨t, rfl⟩ := hth
  rw [List.map_cons]
  (repeat' (first | simp? only [SA, things_w (k := k - 1) h3 h1 (by omega) hw rfl p10 r9 e ok, List.take_succ_cons, List.take_zero] | rw [rst_cons] | rw [wp_blk] | rw [rst_frz] | rw [wp_frz] | (refine And.intro (fun _ => ?_) (fun _ => ?_)) | fail))
  refine while_by (fuel := w) (fun m ρ s => ∃ (od left : List Pm) (c : Cell), ρ = [some (.ref i), some (.dat (.bool b)), some (.dat (.list (tupN (List.range p.length) :: t.map tupN))), some (.ref st.length), some (.ref (st.length + 1)), none, none, none, none] ∧ s = st.set i c ++ [.lst (left.map tupN), .lst (od.map tupN)] ∧ (od ++ left).Perm (List.range p.length :: t) ∧ od.head? = some (List.range p.length) ∧ TpC (n + 2 + od.length) c ∧ m = left.length) t.length (by have := T.le; rw [List.length_cons] at this; omega) ⟨[List.range p.length], t, c, rfl, rfl, List.Perm.refl _, rfl, hF.mono (by simp), rfl⟩ ?_
  · rintro m ρ1 s1 ⟨od, left, c, rfl, rfl, hp, hh, hF, rfl⟩
    have hle := hp.length_eq
    have hT := T.le
    rw [List.length_append] at hle
    by_cases he : left = []
    · subst he
      rw [List.append_nil] at hp
      have hG := grp_of T hp hh
      have nd : od.Nodup := hp.nodup_iff.mpr T.nodup
      have okd : ∀ a ∈ od, a.length = p.length ∧ ∀ k ∈ a, k < p.length := fun a ha => T.ok a (hp.mem_iff.mp ha)
      have cl : ∀ a ∈ od, ∀ b ∈ od, aft a b ∈ od := fun a ha b hb => hp.mem_iff.mpr (T.closed a (hp.mem_iff.mp ha) b (hp.mem_iff.mp hb))
      rw [List.length_nil, Nat.add_zero] at hle
      have hod : od.length ≤ 24 := by omega
      (repeat' (first | simp? only [SA, o_eqNil0, o_neNil0, len_map] | rw [rst_cons] | rw [wp_blk] | rw [rst_frz] | rw [wp_frz] | (refine And.intro (fun _ => ?_) (fun _ => ?_)) | fail))
      refine for_rng (fun j ρ s => ∃ x6 : Option D, ρ = [some (.ref i), some (.dat (.bool b)), some (.dat (.list (tupN (List.range p.length) :: t.map tupN))), some (.ref st.length), some (.dat (.list (od.map tupN))), some (.ref (st.length + 2)), x6, none, none] ∧ s = st.set i c ++ [.lst [], .dead, .dct true (numKV od j)]) ⟨none, rfl, rfl⟩ ?_ ?_
      · rintro j ρ1 s1 hj ⟨x6, rfl, rfl⟩
        (repeat' (first | simp? only [SA, o_gT, keyOk_N] | rw [rst_cons] | rw [wp_blk] | rw [rst_frz] | rw [wp_frz] | (refine And.intro (fun _ => ?_) (fun _ => ?_)) | fail))
        simp? only [SA, dct_eq, keyOk_N, len_numKV, show PyData.int (j : Nat) = natD j from rfl, numKV_put nd hj]
        exact ⟨_, rfl, rfl⟩
      · rintro ρ1 s1 ⟨x6, rfl, rfl⟩
        sizeOf_list_dec
        refine lc_map (e := tupN) (l := od) (g := fun a => .tuple (od.map fun b => natD (od.idxOf (aft a b)))) (by first | omega | (simp only [List.length_range, List.length_map, List.length_replicate, List.length_append, List.length_cons, List.length_nil]; omega)) (fun a ha R h => ?_) ?_
        · array_get_dec
          refine lc_map (e := tupN) (l := od) (g := fun b => natD (od.idxOf (aft a b))) (by first | omega | (simp only [List.length_range, List.length_map, List.length_replicate, List.length_append, List.length_cons, List.length_nil]; omega)) (fun b hb R h => ?_) ?_
          · have hab := cl a ha b hb
            have l1 := (okd b hb).1
            have l2 : ∀ k ∈ b, k < a.length := by rw [(okd a ha).1]; exact (okd b hb).2
            simp? only [SA, dct_eq, after_w h1, keyOk_N, numKV_get hab]
            exact h
          · exact h
        · rw [gD_of]
          simp? only [SA]
          exact h _ _ _ ⟨_, p, r, _, od, hps, rfl, e, T, hp, hh, rfl, rfl⟩ hG hod (hF.mono (by omega))
    · have hn0 := o_nilP (l := left)
      rw [List.isEmpty_eq_false_iff.mpr he] at hn0
      have hlp : 0 < left.length := List.length_pos_iff.mpr he
      rw [List.length_cons] at hT hle
      (repeat' (first | simp? only [SA, hn0, len_map] | rw [rst_cons] | rw [wp_blk] | rw [rst_frz] | rw [wp_frz] | (refine And.intro (fun _ => ?_) (fun _ => ?_)) | fail))
      refine pick_c h2 (by omega) (sga (gset hi)) hF (by omega) (by omega) (by omega) fun v c v0 v1 hF => ?_
      obtain ⟨v, rfl⟩ := Int.eq_ofNat_of_zero_le v0
      have hv : v < left.length := by omega
      have hg := gmT (List.getElem?_eq_getElem hv)
      (repeat' (first | simp? only [SA, hg, len_map, erT] | rw [rst_cons] | rw [wp_blk] | rw [rst_frz] | rw [wp_frz] | (refine And.intro (fun _ => ?_) (fun _ => ?_)) | fail))
      refine ⟨left.length - 1, by omega, od ++ [left[v]], left.eraseIdx v, c, rfl, by rw [mapT1], ?_, ?_, hF.mono (by rw [List.length_append, List.length_singleton]; omega), by rw [List.length_eraseIdx_of_lt hv]⟩
      · rw [List.append_assoc]
        exact (List.Perm.append_left od (er_perm hv)).trans hp
      · cases od with
        | nil => exact nomatch hh
        | cons a od => exact hh
theorem group_c {ia ip it im ic : Nat} (hf : P[f]? = some (d_law_group ia ip it im)) (h1 : P[ia]? = some d_law_after) (h2 : P[ip]? = some d_law_pick) (h3 : P[it]? = some (d_law_things ia)) (h4 : P[im]? = some (d_law_perms ip ic)) (h5 : P[ic]? = some d_law_cycle) (hk : 2 < k) (hw : 65 ≤ w)
    {i n : Nat} {c0 : Cell} (hi : st[i]? = some c0) (hF : TpC n c0) (hn : n + 100 ≤ 2 ^ 30) {b : Bool}
    (h : ∀ z m c, Grp z m → z ≤ 24 → TpC (n + 40) c → Q (.dat (gD z m)) (st.set i c)) : wp Xp (callF P w k f [.ref i, .dat (.bool b)]) st Q :=
  group_x hf h1 h2 h3 h4 h5 hk hw hi hF hn fun z m c _ => h z m c
end
end MP
end B3

section B4
set_option Elab.async false
set_option linter.all false
set_option maxRecDepth 100000
set_option autoImplicit false
set_option maxHeartbeats 2000000

/-! B4: parts. -/
namespace MP
open PySem
local macro_rules
  | `(tactic| array_get_dec) => `(tactic| simp (disch := first | assumption | omega | (simp only [List.length_replicate, List.length_map, List.length_range, List.length_append, List.length_cons, List.length_nil, List.length_set, List.length_take, List.length_drop, List.length_dropLast] <;> omega) | fail) only [WB, tgsLen, exists_eq_left', exists_eq_left, exists_eq', Option.some.injEq, Option.map_some, Option.bind_some, List.getElem?_cons_zero, List.getElem?_cons_succ, List.set_cons_zero, List.set_cons_succ, List.any_cons, List.any_nil, List.map_cons, List.map_nil, List.cons_append, List.nil_append, List.length_cons, List.length_nil, PyData.int.injEq, PyData.bool.injEq, PyData.str.injEq, PyData.list.injEq, PyData.tuple.injEq, D.dat.injEq, D.ref.injEq, Cell.lst.injEq, List.cons.injEq, Bool.not_true, Bool.not_false, Bool.or_false, Bool.or_true, Bool.false_or, Bool.true_or, Bool.and_true, Bool.true_and, Bool.and_false, Bool.false_and, decide_true, decide_false, decide_eq_true_eq, decide_eq_false_iff_not, true_and, and_true, false_and, and_false, Bool.false_eq_true, Bool.true_eq_false, reduceCtorEq, if_true, if_false, ite_true, ite_false, true_implies, false_implies, implies_true, forall_const, forall_eq', forall_eq, id, Bool.not_eq_true', Bool.not_eq_false', wipeE, Nat.zero_le, List.length_set, Nat.reduceAdd, Nat.reduceSub, List.replicate_succ, List.replicate_zero, Int.reduceToNat, Int.toNat_one, Int.toNat_zero, List.length_map, List.length_range, Int.toNat_natCast, TrnK, and_assoc, Option.getD_none, Option.getD_some, Int.sub_zero, cut_hi, cut_lo, cut_last, List.drop_succ_cons, List.drop_zero])
local macro_rules
  | `(tactic| sizeOf_list_dec) => `(tactic| ((try array_get_dec); repeat' (first
    | (rw [rst_cons]; array_get_dec)
    | (rw [wp_blk]; array_get_dec)
    | (rw [rst_frz]; array_get_dec)
    | (rw [wp_frz]; array_get_dec)
    | (refine And.intro (fun _ => ?_) (fun _ => ?_) <;> try array_get_dec)
    | fail)))

theorem nodup_sub_le : ∀ {a b : List Nat}, a.Nodup → (∀ x ∈ a, x ∈ b) → a.length ≤ b.length
  | [], b, _, _ => Nat.zero_le _
  | x :: a, b, hn, hs => by
    have hx := hs x (List.mem_cons_self ..)
    have hn' := List.nodup_cons.mp hn
    have l := (List.perm_cons_erase hx).length_eq
    rw [List.length_cons] at l ⊢
    have := nodup_sub_le (b := b.erase x) hn'.2 (fun y hy => (List.mem_erase_of_ne (fun z => hn'.1 (by rw [← z]; exact hy))).mpr (hs y (List.mem_cons_of_mem _ hy)))
    omega
theorem nodup_permN : ∀ {a b : List Nat}, a.Nodup → (∀ x ∈ a, x ∈ b) → b.length ≤ a.length → a.Perm b
  | [], b, _, _, h => by
    rw [List.length_nil] at h
    rw [List.eq_nil_of_length_eq_zero (by omega : b.length = 0)]
  | x :: a, b, hn, hs, hl => by
    have hx := hs x (List.mem_cons_self ..)
    have hn' := List.nodup_cons.mp hn
    have e := List.perm_cons_erase hx
    have l := e.length_eq
    rw [List.length_cons] at l hl
    refine List.Perm.trans (List.Perm.cons x (nodup_permN hn'.2 (fun y hy => ?_) (by omega))) e.symm
    exact (List.mem_erase_of_ne (fun z => hn'.1 (by rw [← z]; exact hy))).mpr (hs y (List.mem_cons_of_mem _ hy))
theorem nodup_ext {a b : List Nat} (ha : a.Nodup) (hb : b.Nodup) (h : ∀ x, x ∈ a ↔ x ∈ b) : a.Perm b :=
  nodup_permN ha (fun x => (h x).mp) (nodup_sub_le hb fun x => (h x).mpr)
theorem nodup_le {l : List Nat} {n : Nat} (h : l.Nodup) (hl : ∀ x ∈ l, x < n) : l.length ≤ n := by
  have := nodup_sub_le (b := List.range n) h fun x hx => List.mem_range.mpr (hl x hx)
  rwa [List.length_range] at this
theorem nodup_lt {l : List Nat} {n x : Nat} (h : l.Nodup) (hl : ∀ x ∈ l, x < n) (hx : x < n) (hm : x ∉ l) : l.length < n := by
  have := nodup_le (l := x :: l) (n := n) (List.nodup_cons.mpr ⟨hm, h⟩) (fun y hy => by
    rcases List.mem_cons.mp hy with rfl | hy
    · exact hx
    · exact hl y hy)
  rwa [List.length_cons] at this
def pL (n : Nat) (p : Nat → Bool) : List Nat := (List.range n).filter p
def pD (n : Nat) (p : Nat → Bool) : PyData := .tuple ((pL n p).map natD)
theorem mem_pL {n a : Nat} {p : Nat → Bool} : a ∈ pL n p ↔ a < n ∧ p a = true := by
  unfold pL
  rw [List.mem_filter, List.mem_range]
theorem pL_nodup (n : Nat) (p : Nat → Bool) : (pL n p).Nodup := List.Pairwise.filter _ List.nodup_range
theorem pL_up (n : Nat) (p : Nat → Bool) : (pL n p).Pairwise (· < ·) := List.Pairwise.filter _ List.pairwise_lt_range
theorem pL_le (n : Nat) (p : Nat → Bool) : (pL n p).length ≤ n := nodup_le (pL_nodup n p) fun x hx => (mem_pL.mp hx).1
theorem pL_congr {n : Nat} {p q : Nat → Bool} (h : ∀ a, a < n → p a = q a) : pL n p = pL n q := List.filter_congr fun a ha => h a (List.mem_range.mp ha)
theorem isort_N {fs : List Nat} {n : Nat} (nd : fs.Nodup) (hl : ∀ x ∈ fs, x < n) : isort (fs.map fun k : Nat => (k : Int)) = (pL n fs.contains).map fun k : Nat => (k : Int) := by
  symm
  refine isort_of (List.Perm.map _ (nodup_ext (pL_nodup _ _) nd fun x => ?_)) ?_
  · rw [mem_pL, List.contains_iff_mem]
    exact ⟨fun h => h.2, fun h => ⟨hl x h, h⟩⟩
  · rw [List.pairwise_map]
    exact (pL_up _ _).imp fun h => by omega
/-! ### parts -/
structure Part (n : Nat) (m : Nat → Nat → Nat) (p : Nat → Bool) : Prop where
  zero : p 0 = true
  closed : ∀ a b, a < n → b < n → p a = true → p b = true → p (m a b) = true
/-- what comes of some by multiplying from the right -/
inductive Gen (m : Nat → Nat → Nat) (ts : List Nat) : Nat → Prop
  | one : Gen m ts 0
  | step {a t : Nat} : Gen m ts a → t ∈ ts → Gen m ts (m a t)
theorem part_of {n : Nat} {m : Nat → Nat → Nat} (G : Grp n m) {ts fs : List Nat} (ht : ∀ t ∈ ts, t < n) (hf : ∀ x ∈ fs, x < n) (h0 : 0 ∈ fs) (hg : ∀ x ∈ fs, Gen m ts x) (hc : ∀ x ∈ fs, ∀ t ∈ ts, m x t ∈ fs) : Part n m fs.contains := by
  have key : ∀ b, Gen m ts b → b < n ∧ ∀ a ∈ fs, m a b ∈ fs := by
    intro b hb
    induction hb with
    | one => exact ⟨G.pos, fun a ha => by rw [G.one' a (hf a ha)]; exact ha⟩
    | step hb htt ih =>
      refine ⟨G.lt _ _ ih.1 (ht _ htt), fun a ha => ?_⟩
      rw [← G.assoc _ _ _ (hf a ha) ih.1 (ht _ htt)]
      exact hc _ (ih.2 a ha) _ htt
  refine ⟨by rw [List.contains_iff_mem]; exact h0, fun a b _ _ ha hb => ?_⟩
  rw [List.contains_iff_mem] at *
  exact (key b (hg b hb)).2 a ha
/-! ### dicts of things -/
def mkK (fs : List Nat) : List (PyData × PyData) := fs.map fun k => (natD k, .bool true)
theorem same_N (a b : Nat) : same (natD a) (natD b) = decide (a = b) := by
  show decide ((a : Int) = b) = _
  rw [Bool.eq_iff_iff, decide_eq_true_eq, decide_eq_true_eq]
  omega
theorem mkK_get {fs : List Nat} {k : Nat} : (dGet (mkK fs) (natD k)).isSome = fs.contains k := by
  induction fs with
  | nil => rfl
  | cons x fs ih =>
    unfold dGet mkK at ih ⊢
    rw [List.map_cons, List.find?_cons]
    dsimp only
    rw [same_N, List.contains_cons]
    by_cases h : x = k
    · subst h
      simp
    · have h' : ¬ k = x := fun e => h e.symm
      simp only [h, h', decide_false, ih, beq_eq_false_iff_ne.mpr h', Bool.false_or]
theorem mkK_any {fs : List Nat} {k : Nat} : ((mkK fs).any fun p => same p.1 (natD k)) = fs.contains k := by
  induction fs with
  | nil => rfl
  | cons x fs ih =>
    unfold mkK at ih ⊢
    rw [List.map_cons, List.any_cons, ih, same_N, List.contains_cons]
    by_cases h : x = k
    · subst h; simp
    · have h' : ¬ k = x := fun e => h e.symm
      simp [h, h']
theorem mkK_put {fs : List Nat} {k : Nat} (h : k ∉ fs) : dPut (natD k) (.bool true) (mkK fs) = mkK (fs ++ [k]) := by
  have : fs.contains k = false := by rw [Bool.eq_false_iff, ne_eq, List.contains_iff_mem]; exact h
  rw [dPut, mkK_any, this]
  unfold mkK
  rw [List.map_append]
  rfl
theorem mkK_len {fs : List Nat} : (mkK fs).length = fs.length := List.length_map _
theorem mkK_keys {fs : List Nat} : allInts ((mkK fs).map fun p => p.1) = some (fs.map fun k : Nat => (k : Int)) := by
  unfold mkK
  rw [List.map_map]
  have := allInts_map (fs.map fun k : Nat => (k : Int))
  rw [List.map_map] at this
  exact this
theorem natD_is {k : Nat} : PyData.int (k : Int) = natD k := rfl
theorem keyOk_n {k : Nat} : keyOk false (natD k) = true := rfl
theorem mkK_1 : dPuts [] [(PyData.int 0, PyData.bool true)] = mkK [0] := rfl
theorem pairs0 : pairsOf [.int 0, .bool true] = some [(.int 0, .bool true)] := rfl
def rowD (n : Nat) (m : Nat → Nat → Nat) (i : Nat) : PyData := .tuple ((List.range n).map fun j => natD (m i j))
theorem gD_get {n i : Nat} {m : Nat → Nat → Nat} (h : i < n) : idxV (gD n m) (natD i) = some (rowD n m i) := by
  unfold gD natD
  rw [o_ixt (by omega) (by rw [List.length_map, List.length_range]; omega), Int.toNat_natCast, List.getElem?_map, List.getElem?_range h]
  rfl
theorem rowD_get {n i j : Nat} {m : Nat → Nat → Nat} (h : j < n) : idxV (rowD n m i) (natD j) = some (natD (m i j)) := by
  unfold rowD
  rw [natD, o_ixt (by omega) (by rw [List.length_map, List.length_range]; omega), Int.toNat_natCast, List.getElem?_map, List.getElem?_range h]
  rfl
theorem gD_len {n : Nat} {m : Nat → Nat → Nat} : biV .len [gD n m] = some (.dat (.int n)) := by
  unfold gD
  rw [o_lenT, List.length_map, List.length_range]
theorem o_nilN {l : List Nat} : copV .ne (.list (l.map natD)) (.list []) = some (!l.isEmpty) := by
  rw [o_nilS (shal_N _ _), List.isEmpty_map]
theorem mapN1 {l : List Nat} {x : Nat} : (l ++ [x]).map natD = l.map natD ++ [natD x] := by simp
theorem o_nilN1 {l : List Nat} {x : Nat} : copV .ne (.list (l.map natD ++ [natD x])) (.list []) = some true := by
  rw [← mapN1, o_nilN]
  simp
theorem mapNI (l : List Nat) : (l.map fun k : Nat => (k : Int)).map PyData.int = l.map natD := by
  rw [List.map_map]
  rfl
theorem allN (l : List Nat) : allInts (l.map natD) = some (l.map fun k : Nat => (k : Int)) := by
  rw [← mapNI]
  exact allInts_map _
theorem len_mapN {l : List Nat} : (l.map natD).length = l.length := List.length_map _
def GB := And.intro @mkK_get <| And.intro @keyOk_n <| And.intro @mkK_1 <| And.intro @pairs0 <| And.intro @gD_get <| And.intro @rowD_get <| And.intro @gD_len <| And.intro @o_nilN <| And.intro @o_nilN1 <| And.intro @mapN1 <| And.intro @mkK_keys <| And.intro @mkK_len <| And.intro @gl1 <| And.intro @dl1 <| And.intro @dct_eq <| And.intro @mapNI <| And.intro @allN <| @len_mapN
section
variable {Xp : Exc → Store → Prop} {P : List Def} {w k f : Nat} {st : Store} {Q : D → Store → Prop}
theorem part_c (hf : P[f]? = some d_law_part) (hk : 0 < k) (hw : 65 ≤ w) {n : Nat} {m : Nat → Nat → Nat} (G : Grp n m) {ts : List Nat} (ht : ∀ t ∈ ts, t < n)
    (h : ∀ p, Part n m p → Q (.dat (pD n p)) st) : wp Xp (callF P w k f [.dat (gD n m), .dat (.list (ts.map natD))]) st Q := by
  have n24 := G.le
  have n1 := G.pos
  refine wp_call' hf rfl (by omega) ?_; simp only [d_law_part, List.map_cons, List.map_nil, List.length_cons, List.length_nil]; rw [wp_blk]
  (repeat' (first | simp? only [SA, GB, Nat.reduceLeDiff] | rw [rst_cons] | rw [wp_blk] | rw [rst_frz] | rw [wp_frz] | (refine And.intro (fun _ => ?_) (fun _ => ?_)) | fail))
  refine while_by (fuel := w) (fun mm ρ s => ∃ (fs ls : List Nat) (x4 x5 x6 : Option D), ρ = [some (.dat (gD n m)), some (.dat (.list (ts.map natD))), some (.ref st.length), some (.ref (st.length + 1)), x4, x5, x6] ∧ s = st ++ [.dct false (mkK fs), .lst (ls.map natD)] ∧ fs.Nodup ∧ (∀ x ∈ fs, x < n) ∧ 0 ∈ fs ∧ (∀ x ∈ fs, Gen m ts x) ∧ (∀ x ∈ ls, x ∈ fs) ∧ (∀ x ∈ fs, x ∉ ls → ∀ t ∈ ts, m x t ∈ fs) ∧ ls.length + (n - fs.length) ≤ mm ∧ mm ≤ n) n (by omega) ⟨[0], [0], none, none, none, rfl, rfl, by simp, fun x hx => by (rw [List.mem_singleton.mp hx]; omega), by simp, fun x hx => by rw [List.mem_singleton.mp hx]; exact .one, by simp, by simp, by simp only [List.length_cons, List.length_nil]; omega, Nat.le_refl _⟩ ?_
  rintro mm ρ1 s1 ⟨fs, ls, x4, x5, x6, rfl, rfl, nd, lt, f0, fg, lf, cl, hm, hmn⟩
  rcases List.eq_nil_or_concat ls with rfl | ⟨ls, q, rfl⟩
  · (repeat' (first | simp? only [SA, GB] | rw [rst_cons] | rw [wp_blk] | rw [rst_frz] | rw [wp_frz] | (refine And.intro (fun _ => ?_) (fun _ => ?_)) | fail))
    have l24 := nodup_le nd lt
    simp? only [SA, GB, isort_N nd lt]
    exact ⟨by omega, h _ (part_of G ht lt f0 fg fun x hx t htt => cl x hx (by simp) t htt)⟩
  · rw [List.concat_eq_append] at *
    have hq := lf q (by simp)
    have hqn := lt q hq
    rw [List.length_append, List.length_singleton] at hm
    (repeat' (first | simp? only [SA, GB] | rw [rst_cons] | rw [wp_blk] | rw [rst_frz] | rw [wp_frz] | (refine And.intro (fun _ => ?_) (fun _ => ?_)) | fail))
    refine for_by (e := natD) (l := ts) (fun j ρ s => ∃ (fs2 ls2 : List Nat) (y5 y6 : Option D), ρ = [some (.dat (gD n m)), some (.dat (.list (ts.map natD))), some (.ref st.length), some (.ref (st.length + 1)), some (.dat (natD q)), y5, y6] ∧ s = st ++ [.dct false (mkK fs2), .lst (ls2.map natD)] ∧ fs2.Nodup ∧ (∀ x ∈ fs2, x < n) ∧ (∀ x ∈ fs, x ∈ fs2) ∧ (∀ x ∈ fs2, Gen m ts x) ∧ (∀ x ∈ ls2, x ∈ fs2) ∧ (∀ x ∈ fs2, x ∉ ls2 → x ≠ q → ∀ t ∈ ts, m x t ∈ fs2) ∧ (∀ t ∈ ts.take j, m q t ∈ fs2) ∧ ls2.length + (n - fs2.length) ≤ ls.length + (n - fs.length)) ⟨fs, ls, x5, x6, rfl, rfl, nd, lt, fun x hx => hx, fg, fun x hx => lf x (by simp [hx]), fun x hx hl hxq => cl x hx (by simp [hl, hxq]), by simp, Nat.le_refl _⟩ ?_ ?_
    · rintro j t ρ1 s1 htj ⟨fs2, ls2, y5, y6, rfl, rfl, nd2, lt2, sub2, fg2, lf2, cl2, q2, hm2⟩
      have htm := List.mem_of_getElem? htj
      have htn := ht t htm
      have hlt := G.lt q t hqn htn
      have l24 := nodup_le nd2 lt2
      have tk : ∀ u ∈ ts.take (j + 1), u ∈ ts.take j ∨ u = t := fun u hu => by
        rw [List.take_succ, htj] at hu
        simpa using hu
      by_cases hin : m q t ∈ fs2
      · have hc : fs2.contains (m q t) = true := List.contains_iff_mem.mpr hin
        (repeat' (first | simp? only [SA, GB, hc] | rw [rst_cons] | rw [wp_blk] | rw [rst_frz] | rw [wp_frz] | (refine And.intro (fun _ => ?_) (fun _ => ?_)) | fail))
        refine ⟨fs2, ls2, _, _, rfl, rfl, nd2, lt2, sub2, fg2, lf2, cl2, fun u hu => ?_, hm2⟩
        rcases tk u hu with hu | rfl
        · exact q2 u hu
        · exact hin
      · have hc : fs2.contains (m q t) = false := by rw [Bool.eq_false_iff, ne_eq, List.contains_iff_mem]; exact hin
        have l25 := nodup_lt nd2 lt2 hlt hin
        (repeat' (first | simp? only [SA, GB, hc, mkK_put hin] | rw [rst_cons] | rw [wp_blk] | rw [rst_frz] | rw [wp_frz] | (refine And.intro (fun _ => ?_) (fun _ => ?_)) | fail))
        refine ⟨fs2 ++ [m q t], ls2 ++ [m q t], _, _, rfl, by rw [mapN1], ?_, ?_, ?_, ?_, ?_, ?_, ?_, ?_⟩
        · exact (List.perm_append_comm (l₁ := fs2) (l₂ := [m q t])).nodup_iff.mpr (List.nodup_cons.mpr ⟨hin, nd2⟩)
        · intro x hx
          rcases List.mem_append.mp hx with hx | hx
          · exact lt2 x hx
          · rw [List.mem_singleton.mp hx]; exact hlt
        · exact fun x hx => List.mem_append_left _ (sub2 x hx)
        · intro x hx
          rcases List.mem_append.mp hx with hx | hx
          · exact fg2 x hx
          · rw [List.mem_singleton.mp hx]; exact .step (fg2 q (sub2 q hq)) htm
        · intro x hx
          rcases List.mem_append.mp hx with hx | hx
          · exact List.mem_append_left _ (lf2 x hx)
          · exact List.mem_append_right _ hx
        · intro x hx hn hxq u hu
          rw [List.mem_append] at hn
          rcases List.mem_append.mp hx with hx | hx
          · exact List.mem_append_left _ (cl2 x hx (fun z => hn (.inl z)) hxq u hu)
          · exact absurd (.inr hx) hn
        · intro u hu
          rcases tk u hu with hu | rfl
          · exact List.mem_append_left _ (q2 u hu)
          · exact List.mem_append_right _ (List.mem_singleton.mpr rfl)
        · simp only [List.length_append, List.length_singleton]
          omega
    · rintro ρ1 s1 ⟨fs2, ls2, y5, y6, rfl, rfl, nd2, lt2, sub2, fg2, lf2, cl2, q2, hm2⟩
      rw [List.take_length] at q2
      array_get_dec
      refine ⟨mm - 1, by omega, fs2, ls2, _, _, _, rfl, rfl, nd2, lt2, sub2 0 f0, fg2, lf2, fun x hx hl u hu => ?_, by omega, by omega⟩
      by_cases hxq : x = q
      · subst hxq
        exact q2 u hu
      · exact cl2 x hx hl hxq u hu
theorem some_c {ip : Nat} (hf : P[f]? = some (d_law_some ip)) (h1 : P[ip]? = some d_law_pick) (hk : 1 < k) {i z : Nat} {c0 : Cell} (hi : st[i]? = some c0) (hF : TpC z c0) (hz : z + 10 ≤ 2 ^ 30) {n : Nat} {m : Nat → Nat → Nat} (G : Grp n m)
    (h : ∀ (ts : List Nat) (c : Cell), (∀ t ∈ ts, t < n) → ts.length ≤ 2 → TpC (z + 3) c → Q (.newL (ts.map natD)) (st.set i c)) : wp Xp (callF P w k f [.ref i, .dat (gD n m)]) st Q := by
  have n24 := G.le
  have n1 := G.pos
  refine wp_call' hf rfl (by omega) ?_; simp only [d_law_some, List.map_cons, List.map_nil, List.length_cons, List.length_nil]; rw [wp_blk]
  sizeOf_list_dec
  refine pick_c h1 (by omega) hi hF (by omega) (by omega) (by omega) fun v c v0 v1 hF => ?_
  obtain ⟨v, rfl⟩ := Int.eq_ofNat_of_zero_le v0
  sizeOf_list_dec
  refine lc_by (e := fun k : Nat => .int k) (l := List.range v) (fun j acc s => ∃ (ts : List Nat) (c : Cell), acc = ts.map natD ∧ ts.length = j ∧ (∀ t ∈ ts, t < n) ∧ TpC (z + 1 + j) c ∧ s = st.set i c) ⟨[], c, rfl, rfl, by simp, hF, rfl⟩ (by first | omega | (simp only [List.length_range, List.length_map, List.length_replicate, List.length_append, List.length_cons, List.length_nil]; omega)) ?_ ?_ ?_
  · rintro j acc s ⟨ts, c, rfl, rfl, _⟩
    rw [List.length_map]
    exact Nat.le_refl _
  · rintro j x acc s hx ⟨ts, c, rfl, rfl, lt, hF, rfl⟩
    have hj : ts.length < v := by
      have := (List.getElem?_eq_some_iff.mp hx).1
      rwa [List.length_range] at this
    simp? only [GB]
    refine pick_c h1 (by omega) (gset hi) hF (by omega) (by omega) (by omega) fun u c u0 u1 hF => ?_
    obtain ⟨u, rfl⟩ := Int.eq_ofNat_of_zero_le u0
    array_get_dec
    refine ⟨ts ++ [u], c, by rw [mapN1]; rfl, by simp, fun t ht => ?_, hF.mono (by omega), rfl⟩
    rcases List.mem_append.mp ht with ht | ht
    · exact lt t ht
    · rw [List.mem_singleton.mp ht]; omega
  · rintro acc s ⟨ts, c, rfl, hl, lt, hF, rfl⟩
    rw [List.length_range] at hl hF
    array_get_dec
    exact h _ _ lt (by omega) (hF.mono (by omega))
theorem any_part_c {ip ig is : Nat} (hf : P[f]? = some (d_law_any_part ig is)) (h1 : P[ip]? = some d_law_pick) (h2 : P[ig]? = some d_law_part) (h3 : P[is]? = some (d_law_some ip)) (hk : 2 < k) (hw : 65 ≤ w) {i z : Nat} {c0 : Cell} (hi : st[i]? = some c0) (hF : TpC z c0) (hz : z + 10 ≤ 2 ^ 30) {n : Nat} {m : Nat → Nat → Nat} (G : Grp n m)
    (h : ∀ p c, Part n m p → TpC (z + 3) c → Q (.dat (pD n p)) (st.set i c)) : wp Xp (callF P w k f [.ref i, .dat (gD n m)]) st Q := by
  refine wp_call' hf rfl (by omega) ?_; simp only [d_law_any_part, List.map_cons, List.map_nil, List.length_cons, List.length_nil]; rw [wp_blk]
  sizeOf_list_dec
  refine some_c h3 h1 (by omega) hi hF hz G fun ts c lt _ hF => ?_
  array_get_dec
  refine part_c h2 (by omega) hw G lt fun p hp => ?_
  array_get_dec
  exact h _ _ hp hF
end
end MP
end B4

section B5
set_option Elab.async false
set_option linter.all false
set_option maxRecDepth 100000
set_option autoImplicit false
set_option maxHeartbeats 2000000

/-! B5: sides of a part. -/
namespace MP
open PySem
local macro_rules
  | `(tactic| array_get_dec) => `(tactic| simp (disch := first | assumption | omega | (simp only [List.length_replicate, List.length_map, List.length_range, List.length_append, List.length_cons, List.length_nil, List.length_set, List.length_take, List.length_drop, List.length_dropLast] <;> omega) | fail) only [WB, tgsLen, exists_eq_left', exists_eq_left, exists_eq', Option.some.injEq, Option.map_some, Option.bind_some, List.getElem?_cons_zero, List.getElem?_cons_succ, List.set_cons_zero, List.set_cons_succ, List.any_cons, List.any_nil, List.map_cons, List.map_nil, List.cons_append, List.nil_append, List.length_cons, List.length_nil, PyData.int.injEq, PyData.bool.injEq, PyData.str.injEq, PyData.list.injEq, PyData.tuple.injEq, D.dat.injEq, D.ref.injEq, Cell.lst.injEq, List.cons.injEq, Bool.not_true, Bool.not_false, Bool.or_false, Bool.or_true, Bool.false_or, Bool.true_or, Bool.and_true, Bool.true_and, Bool.and_false, Bool.false_and, decide_true, decide_false, decide_eq_true_eq, decide_eq_false_iff_not, true_and, and_true, false_and, and_false, Bool.false_eq_true, Bool.true_eq_false, reduceCtorEq, if_true, if_false, ite_true, ite_false, true_implies, false_implies, implies_true, forall_const, forall_eq', forall_eq, id, Bool.not_eq_true', Bool.not_eq_false', wipeE, Nat.zero_le, List.length_set, Nat.reduceAdd, Nat.reduceSub, List.replicate_succ, List.replicate_zero, Int.reduceToNat, Int.toNat_one, Int.toNat_zero, List.length_map, List.length_range, Int.toNat_natCast, TrnK, and_assoc, Option.getD_none, Option.getD_some, Int.sub_zero, cut_hi, cut_lo, cut_last, List.drop_succ_cons, List.drop_zero])
local macro_rules
  | `(tactic| sizeOf_list_dec) => `(tactic| ((try array_get_dec); repeat' (first
    | (rw [rst_cons]; array_get_dec)
    | (rw [wp_blk]; array_get_dec)
    | (rw [rst_frz]; array_get_dec)
    | (rw [wp_frz]; array_get_dec)
    | (refine And.intro (fun _ => ?_) (fun _ => ?_) <;> try array_get_dec)
    | fail)))

def d_sides : Def := ⟨"sides", ["group", "part"], ["group", "part", "met", "found", "a", "row", "one", "h"],
  .cons (.asg (.name 2) (.cell (.emp false)))
    (.cons (.asg (.name 3) (.cell (.lst (.nil))))
    (.cons (.for_ (.name 4) (.rng1 (.bi .len (.cons (.var 0) .nil))) (.cons (.ife (.isinD true (.var 4) (.var 2)) (.cons (.asg (.name 5) (.bi .sorted (.cons (.comp (.idx (.idx (.var 0) (.var 4)) (.var 7)) (.name 7) (.val (.var 1)) .none [("h", 7)]) .nil))) (.cons (.for_ (.name 6) (.val (.var 5)) (.cons (.asg (.subD (.var 2) (.var 6)) (.con (.bool true))) .nil)) (.cons (.expr (.app (.var 3) (.bi .tuple (.cons (.var 5) .nil)))) .nil))) (.nil)) .nil))
    (.cons (.ret (.bi .tuple (.cons (.var 3) .nil))) .nil)))⟩

section
variable {n : Nat} {m : Nat → Nat → Nat} {p : Nat → Bool}
theorem Grp.inj (G : Grp n m) {a h k : Nat} (ha : a < n) (hh : h < n) (hk : k < n) (e : m a h = m a k) : h = k := by
  obtain ⟨b, hb, _, e2⟩ := G.back a ha
  have e3 : m b (m a h) = m b (m a k) := by rw [e]
  rwa [← G.assoc _ _ _ hb ha hh, ← G.assoc _ _ _ hb ha hk, e2, G.one h hh, G.one k hk] at e3
def side (n : Nat) (m : Nat → Nat → Nat) (p : Nat → Bool) (a : Nat) : Pm := pL n ((pL n p).map (m a)).contains
theorem mem_side (G : Grp n m) {a x : Nat} (ha : a < n) : x ∈ side n m p a ↔ ∃ h, h < n ∧ p h = true ∧ m a h = x := by
  unfold side
  rw [mem_pL, List.contains_iff_mem, List.mem_map]
  constructor
  · rintro ⟨_, h, hh, e⟩
    obtain ⟨h1, h2⟩ := mem_pL.mp hh
    exact ⟨h, h1, h2, e⟩
  · rintro ⟨h, h1, h2, rfl⟩
    exact ⟨G.lt _ _ ha h1, h, mem_pL.mpr ⟨h1, h2⟩, rfl⟩
theorem side_lt {a x : Nat} (h : x ∈ side n m p a) : x < n := (mem_pL.mp h).1
theorem map_nodup (G : Grp n m) {a : Nat} (ha : a < n) : ((pL n p).map (m a)).Nodup := by
  rw [List.Nodup, List.pairwise_map]
  refine (pL_nodup n p).imp_of_mem fun {x y} hx hy hn e => hn (G.inj ha (mem_pL.mp hx).1 (mem_pL.mp hy).1 e)
theorem side_perm (G : Grp n m) {a : Nat} (ha : a < n) : (side n m p a).Perm ((pL n p).map (m a)) := by
  refine nodup_ext (pL_nodup _ _) (map_nodup G ha) fun x => ?_
  unfold side
  rw [mem_pL, List.contains_iff_mem]
  refine ⟨fun h => h.2, fun h => ⟨?_, h⟩⟩
  obtain ⟨y, hy, rfl⟩ := List.mem_map.mp h
  exact G.lt _ _ ha (mem_pL.mp hy).1
theorem side_len (G : Grp n m) {a : Nat} (ha : a < n) : (side n m p a).length = (pL n p).length := by
  rw [(side_perm G ha).length_eq, List.length_map]
theorem side_self (G : Grp n m) (H : Part n m p) {a : Nat} (ha : a < n) : a ∈ side n m p a := (mem_side G ha).mpr ⟨0, G.pos, H.zero, G.one' a ha⟩
theorem Part.inv (H : Part n m p) (G : Grp n m) {h : Nat} (hh : h < n) (ph : p h = true) : ∃ k, k < n ∧ p k = true ∧ m h k = 0 := by
  have e := nodup_permN (a := (pL n p).map (m h)) (b := pL n p) (map_nodup G hh) (fun x hx => by
    obtain ⟨y, hy, rfl⟩ := List.mem_map.mp hx
    obtain ⟨h1, h2⟩ := mem_pL.mp hy
    exact mem_pL.mpr ⟨G.lt _ _ hh h1, H.closed _ _ hh h1 ph h2⟩) (by rw [List.length_map]; exact Nat.le_refl _)
  obtain ⟨k, hk, e0⟩ := List.mem_map.mp (e.mem_iff.mpr (mem_pL.mpr ⟨G.pos, H.zero⟩))
  exact ⟨k, (mem_pL.mp hk).1, (mem_pL.mp hk).2, e0⟩
theorem side_eq (G : Grp n m) (H : Part n m p) {a x : Nat} (ha : a < n) (hx : x ∈ side n m p a) : side n m p x = side n m p a := by
  have xn := side_lt hx
  obtain ⟨h, hh, ph, rfl⟩ := (mem_side G ha).mp hx
  obtain ⟨k, hk, pk, e⟩ := H.inv G hh ph
  have main : ∀ y, y ∈ side n m p (m a h) ↔ y ∈ side n m p a := by
    intro y
    rw [mem_side G xn, mem_side G ha]
    constructor
    · rintro ⟨h2, hh2, ph2, rfl⟩
      exact ⟨m h h2, G.lt _ _ hh hh2, H.closed _ _ hh hh2 ph ph2, (G.assoc _ _ _ ha hh hh2).symm⟩
    · rintro ⟨h2, hh2, ph2, rfl⟩
      refine ⟨m k h2, G.lt _ _ hk hh2, H.closed _ _ hk hh2 pk ph2, ?_⟩
      rw [G.assoc _ _ _ ha hh (G.lt _ _ hk hh2), ← G.assoc _ _ _ hh hk hh2, e, G.one _ hh2]
  unfold side at main ⊢
  refine pL_congr fun y hy => ?_
  have := main y
  rw [mem_pL, mem_pL] at this
  rw [Bool.eq_iff_iff]
  exact ⟨fun z => (this.mp ⟨hy, z⟩).2, fun z => (this.mpr ⟨hy, z⟩).2⟩
/-- the sides, each once -/
def sd (n : Nat) (m : Nat → Nat → Nat) (p : Nat → Bool) : Nat → List Pm
  | 0 => []
  | j + 1 => if memP (sd n m p j) (side n m p j) then sd n m p j else sd n m p j ++ [side n m p j]
theorem sd_len (n : Nat) (m : Nat → Nat → Nat) (p : Nat → Bool) : ∀ j, (sd n m p j).length ≤ j
  | 0 => Nat.le_refl _
  | j + 1 => by
    have := sd_len n m p j
    rw [sd]
    split
    · omega
    · rw [List.length_append, List.length_singleton]; omega
theorem head_least {l : List Nat} {j : Nat} (u : l.Pairwise (· < ·)) (hj : j ∈ l) (h : ∀ x ∈ l, j ≤ x) : l.head? = some j := by
  cases l with
  | nil => exact nomatch hj
  | cons a l =>
    rcases List.mem_cons.mp hj with rfl | hj
    · rfl
    · have := (List.pairwise_cons.mp u).1 j hj
      have := h a (List.mem_cons_self ..)
      omega
structure SdOk (n : Nat) (m : Nat → Nat → Nat) (p : Nat → Bool) (j : Nat) : Prop where
  of : ∀ r ∈ sd n m p j, ∃ b, b < j ∧ r = side n m p b ∧ r.head? = some b
  all : ∀ b, b < j → side n m p b ∈ sd n m p j
  up : (sd n m p j).Pairwise fun r s => ∃ a b, r.head? = some a ∧ s.head? = some b ∧ a < b
  nd : (sd n m p j).flatten.Nodup
theorem SdOk.mem (G : Grp n m) (H : Part n m p) {j : Nat} (S : SdOk n m p j) (hj : j < n) {x : Nat} (hx : x < n) : x ∈ (sd n m p j).flatten ↔ side n m p x ∈ sd n m p j := by
  rw [List.mem_flatten]
  constructor
  · rintro ⟨r, hr, hxr⟩
    obtain ⟨b, hb, rfl, _⟩ := S.of r hr
    rw [side_eq G H (by omega) hxr]
    exact hr
  · intro h
    exact ⟨_, h, side_self G H hx⟩
theorem SdOk.lt {j : Nat} (S : SdOk n m p j) {x : Nat} (h : x ∈ (sd n m p j).flatten) : x < n := by
  obtain ⟨r, hr, hx⟩ := List.mem_flatten.mp h
  obtain ⟨b, _, rfl, _⟩ := S.of r hr
  exact side_lt hx
theorem sd_disj (G : Grp n m) (H : Part n m p) {j : Nat} (S : SdOk n m p j) (hj : j < n) (hm : side n m p j ∉ sd n m p j) {x : Nat} (hx : x ∈ side n m p j) : x ∉ (sd n m p j).flatten := by
  intro h
  have := (S.mem G H hj (side_lt hx)).mp h
  rw [side_eq G H hj hx] at this
  exact hm this
theorem sdOk (G : Grp n m) (H : Part n m p) : ∀ j, j ≤ n → SdOk n m p j
  | 0, _ => ⟨(fun r hr => nomatch hr), fun b hb => absurd hb (by omega), List.Pairwise.nil, List.nodup_nil⟩
  | j + 1, hj => by
    have S := sdOk G H j (by omega)
    have e : sd n m p (j + 1) = if memP (sd n m p j) (side n m p j) then sd n m p j else sd n m p j ++ [side n m p j] := rfl
    by_cases h : memP (sd n m p j) (side n m p j) = true
    · rw [if_pos h] at e
      rw [memP_iff] at h
      refine ⟨fun r hr => ?_, fun b hb => ?_, by rw [e]; exact S.up, by rw [e]; exact S.nd⟩
      · rw [e] at hr
        obtain ⟨b, h1, h2⟩ := S.of r hr
        exact ⟨b, by omega, h2⟩
      · rw [e]
        by_cases hb2 : b = j
        · rw [hb2]; exact h
        · exact S.all b (by omega)
    · rw [if_neg h] at e
      have h' : side n m p j ∉ sd n m p j := fun z => h (memP_iff.mpr z)
      have hd : (side n m p j).head? = some j := by
        refine head_least (pL_up _ _) (side_self G H (by omega)) fun x hx => ?_
        rcases Nat.lt_or_ge x j with hl | hl
        · exact absurd (side_eq G H (by omega) hx ▸ S.all x hl) h'
        · exact hl
      refine ⟨fun r hr => ?_, fun b hb => ?_, ?_, ?_⟩
      · rw [e] at hr
        rcases List.mem_append.mp hr with hr | hr
        · obtain ⟨b, h1, h2⟩ := S.of r hr
          exact ⟨b, by omega, h2⟩
        · rw [List.mem_singleton.mp hr]
          exact ⟨j, by omega, rfl, hd⟩
      · rw [e]
        by_cases hb2 : b = j
        · rw [hb2]; exact List.mem_append_right _ (List.mem_singleton.mpr rfl)
        · exact List.mem_append_left _ (S.all b (by omega))
      · rw [e, List.pairwise_append]
        refine ⟨S.up, List.pairwise_singleton _ _, fun r hr s hs => ?_⟩
        obtain ⟨b, h1, h2, h3⟩ := S.of r hr
        rw [List.mem_singleton.mp hs]
        exact ⟨b, j, h3, hd, h1⟩
      · rw [e, List.flatten_append, List.flatten_cons, List.flatten_nil, List.append_nil, List.nodup_append]
        refine ⟨S.nd, pL_nodup _ _, fun x hx y hy hxy => ?_⟩
        subst hxy
        exact sd_disj G H S (by omega) h' hy hx
end
/-! ### sorted of rows -/
/-! ### repr of rows -/
def rowsD (l : List Pm) : PyData := .tuple (l.map tupN)
section
variable {Xp : Exc → Store → Prop} {P : List Def} {w k f : Nat} {st : Store} {Q : D → Store → Prop} {n : Nat} {m : Nat → Nat → Nat} {p : Nat → Bool}
theorem isort_side (G : Grp n m) {a : Nat} (ha : a < n) : isort (((pL n p).map (m a)).map fun k : Nat => (k : Int)) = (side n m p a).map fun k : Nat => (k : Int) := isort_N (map_nodup G ha) fun x hx => by
  obtain ⟨y, hy, rfl⟩ := List.mem_map.mp hx
  exact G.lt _ _ ha (mem_pL.mp hy).1
theorem comp_natD {α : Type} (l : List α) (g : α → Nat) : (l.map fun x => natD (g x)) = (l.map g).map natD := by
  rw [List.map_map]
  rfl
theorem o_sortS (G : Grp n m) {a : Nat} (ha : a < n) : biV .sorted [.list (((pL n p).map (m a)).map natD)] = some (.newL ((side n m p a).map natD)) := by
  show sortedB [.list (((pL n p).map (m a)).map natD)] = _
  rw [sortedB, allN]
  dsimp only
  rw [isort_side G ha, mapNI]
theorem sides_w (hf : P[f]? = some d_sides) (hk : 0 < k) (G : Grp n m) (H : Part n m p) : wp Xp (callF P w k f [.dat (gD n m), .dat (pD n p)]) st Q ↔ Q (.dat (rowsD (sd n m p n))) st := runs_iff fun R hR => by
  have n24 := G.le
  unfold pD
  refine wp_call' hf rfl (by omega) ?_; simp only [d_sides, List.map_cons, List.map_nil, List.length_cons, List.length_nil]; rw [wp_blk]
  (repeat' (first | simp? only [SA, GB] | rw [rst_cons] | rw [wp_blk] | rw [rst_frz] | rw [wp_frz] | (refine And.intro (fun _ => ?_) (fun _ => ?_)) | fail))
  refine for_rng (fun j ρ s => ∃ x4 x5 x6 : Option D, ρ = [some (.dat (gD n m)), some (.dat (.tuple ((pL n p).map natD))), some (.ref st.length), some (.ref (st.length + 1)), x4, x5, x6, none] ∧ s = st ++ [.dct false (mkK (sd n m p j).flatten), .lst ((sd n m p j).map tupN)]) ⟨none, none, none, rfl, rfl⟩ ?_ ?_
  · rintro j ρ1 s1 hj ⟨x4, x5, x6, rfl, rfl⟩
    have S := sdOk G H j (by omega)
    have e1 : ((sd n m p j).flatten.contains j) = memP (sd n m p j) (side n m p j) := by
      rw [Bool.eq_iff_iff, List.contains_iff_mem, S.mem G H hj hj, memP_iff]
    have ll := nodup_le S.nd fun x hx => S.lt hx
    cases e2 : memP (sd n m p j) (side n m p j)
    · have h' : side n m p j ∉ sd n m p j := fun z => by rw [memP_iff.mpr z] at e2; exact nomatch e2
      have e3 : sd n m p (j + 1) = sd n m p j ++ [side n m p j] := by rw [sd, if_neg (by rw [e2]; decide)]
      (repeat' (first | simp? only [SA, GB, natD_is, e1, e2] | rw [rst_cons] | rw [wp_blk] | rw [rst_frz] | rw [wp_frz] | (refine And.intro (fun _ => ?_) (fun _ => ?_)) | fail))
      refine lc_map (e := natD) (l := pL n p) (g := fun h => natD (m j h)) (by have := pL_le n p; omega) (fun h hh R hR => ?_) ?_
      · have := (mem_pL.mp hh).1
        simp? only [GB]
        exact hR
      · rw [comp_natD]
        (repeat' (first | simp? only [SA, GB, o_sortS G hj] | rw [rst_cons] | rw [wp_blk] | rw [rst_frz] | rw [wp_frz] | (refine And.intro (fun _ => ?_) (fun _ => ?_)) | fail))
        have dj := fun x hx => sd_disj G H S hj h' (x := x) hx
        have S' := sdOk G H (j + 1) (by omega)
        refine for_by (e := natD) (l := side n m p j) (fun i ρ s => ∃ x6 : Option D, ρ = [some (.dat (gD n m)), some (.dat (.tuple ((pL n p).map natD))), some (.ref st.length), some (.ref (st.length + 1)), some (.dat (natD j)), some (.dat (.list ((side n m p j).map natD))), x6, none] ∧ s = st ++ [.dct false (mkK ((sd n m p j).flatten ++ (side n m p j).take i)), .lst ((sd n m p j).map tupN)]) ⟨_, rfl, by rw [List.take_zero, List.append_nil]⟩ ?_ ?_
        · rintro i x ρ1 s1 hx ⟨x6, rfl, rfl⟩
          have hxs := List.mem_of_getElem? hx
          have e4 : (side n m p j).take (i + 1) = (side n m p j).take i ++ [x] := by rw [List.take_succ, hx]; rfl
          have nd2 : ((sd n m p j).flatten ++ (side n m p j)).Nodup := by
            have := S'.nd
            rwa [e3, List.flatten_append, List.flatten_cons, List.flatten_nil, List.append_nil] at this
          have nd3 : ((sd n m p j).flatten ++ (side n m p j).take i).Nodup := nd2.sublist (List.Sublist.append_left (List.take_sublist _ _) _)
          have ll3 := nodup_le (n := n) nd3 fun y hy => by
            rcases List.mem_append.mp hy with hy | hy
            · exact S.lt hy
            · exact side_lt (List.mem_of_mem_take hy)
          have hnx : x ∉ (sd n m p j).flatten ++ (side n m p j).take i := by
            have nd4 : ((sd n m p j).flatten ++ (side n m p j).take (i + 1)).Nodup := nd2.sublist (List.Sublist.append_left (List.take_sublist _ _) _)
            rw [e4, ← List.append_assoc, List.nodup_append] at nd4
            exact fun hm => nd4.2.2 x hm x (List.mem_singleton.mpr rfl) rfl
          (repeat' (first | simp? only [SA, GB, mkK_put hnx] | rw [rst_cons] | rw [wp_blk] | rw [rst_frz] | rw [wp_frz] | (refine And.intro (fun _ => ?_) (fun _ => ?_)) | fail))
          exact ⟨_, rfl, by rw [e4, List.append_assoc]⟩
        · rintro ρ1 s1 ⟨x6, rfl, rfl⟩
          have sl := sd_len n m p j
          (repeat' (first | simp? only [SA, GB, len_map] | rw [rst_cons] | rw [wp_blk] | rw [rst_frz] | rw [wp_frz] | (refine And.intro (fun _ => ?_) (fun _ => ?_)) | fail))
          refine ⟨_, _, _, rfl, ?_⟩
          rw [e3, List.flatten_append, List.flatten_cons, List.flatten_nil, List.append_nil, List.take_length, mapT1]
          rfl
    · have e3 : sd n m p (j + 1) = sd n m p j := by rw [sd, if_pos e2]
      (repeat' (first | simp? only [SA, GB, natD_is, e1, e2] | rw [rst_cons] | rw [wp_blk] | rw [rst_frz] | rw [wp_frz] | (refine And.intro (fun _ => ?_) (fun _ => ?_)) | fail))
      exact ⟨_, _, _, rfl, by rw [e3]⟩
  · rintro ρ1 s1 ⟨x4, x5, x6, rfl, rfl⟩
    (repeat' (first | simp? only [SA] | rw [rst_cons] | rw [wp_blk] | rw [rst_frz] | rw [wp_frz] | (refine And.intro (fun _ => ?_) (fun _ => ?_)) | fail))
    exact hR
end
end MP
end B5

section B6
set_option Elab.async false
set_option linter.all false
set_option maxRecDepth 100000
set_option autoImplicit false
set_option maxHeartbeats 2000000

/-! B6: the table of defs that the laws of groups share. -/
namespace MP
open PySem
local macro_rules
  | `(tactic| array_get_dec) => `(tactic| simp (disch := first | assumption | omega | (simp only [List.length_replicate, List.length_map, List.length_range, List.length_append, List.length_cons, List.length_nil, List.length_set, List.length_take, List.length_drop, List.length_dropLast] <;> omega) | fail) only [WB, tgsLen, exists_eq_left', exists_eq_left, exists_eq', Option.some.injEq, Option.map_some, Option.bind_some, List.getElem?_cons_zero, List.getElem?_cons_succ, List.set_cons_zero, List.set_cons_succ, List.any_cons, List.any_nil, List.map_cons, List.map_nil, List.cons_append, List.nil_append, List.length_cons, List.length_nil, PyData.int.injEq, PyData.bool.injEq, PyData.str.injEq, PyData.list.injEq, PyData.tuple.injEq, D.dat.injEq, D.ref.injEq, Cell.lst.injEq, List.cons.injEq, Bool.not_true, Bool.not_false, Bool.or_false, Bool.or_true, Bool.false_or, Bool.true_or, Bool.and_true, Bool.true_and, Bool.and_false, Bool.false_and, decide_true, decide_false, decide_eq_true_eq, decide_eq_false_iff_not, true_and, and_true, false_and, and_false, Bool.false_eq_true, Bool.true_eq_false, reduceCtorEq, if_true, if_false, ite_true, ite_false, true_implies, false_implies, implies_true, forall_const, forall_eq', forall_eq, id, Bool.not_eq_true', Bool.not_eq_false', wipeE, Nat.zero_le, List.length_set, Nat.reduceAdd, Nat.reduceSub, List.replicate_succ, List.replicate_zero, Int.reduceToNat, Int.toNat_one, Int.toNat_zero, List.length_map, List.length_range, Int.toNat_natCast, TrnK, and_assoc, Option.getD_none, Option.getD_some, Int.sub_zero, cut_hi, cut_lo, cut_last, List.drop_succ_cons, List.drop_zero])
local macro_rules
  | `(tactic| sizeOf_list_dec) => `(tactic| ((try array_get_dec); repeat' (first
    | (rw [rst_cons]; array_get_dec)
    | (rw [wp_blk]; array_get_dec)
    | (rw [rst_frz]; array_get_dec)
    | (rw [wp_frz]; array_get_dec)
    | (refine And.intro (fun _ => ?_) (fun _ => ?_) <;> try array_get_dec)
    | fail)))

/-- tape, pick, cycle, perms, after, things, group -/
structure TxG (P : List Def) (it ip ic im ia ih ig : Nat) : Prop where
  tape : P[it]? = some d_law_tape
  pick : P[ip]? = some d_law_pick
  cycle : P[ic]? = some d_law_cycle
  perms : P[im]? = some (d_law_perms ip ic)
  after : P[ia]? = some d_law_after
  things : P[ih]? = some (d_law_things ia)
  group : P[ig]? = some (d_law_group ia ip ih im)
/-- part, some, any_part -/
structure TxP (P : List Def) (ip ir is iy : Nat) : Prop where
  part : P[ir]? = some d_law_part
  some_ : P[is]? = some (d_law_some ip)
  any : P[iy]? = some (d_law_any_part ir is)
section
variable {Xp : Exc → Store → Prop} {P : List Def} {w k f : Nat} {st : Store} {Q : D → Store → Prop} {it ip ic im ia ih ig ir is iy i z n : Nat} {c0 : Cell} {m : Nat → Nat → Nat} {b : Bool}
theorem TxG.group_c (T : TxG P it ip ic im ia ih ig) (hk : 2 < k) (hw : 65 ≤ w) (hi : st[i]? = some c0) (hF : TpC z c0) (hz : z + 100 ≤ 2 ^ 30)
    (h : ∀ n m c, Grp n m → n ≤ 24 → TpC (z + 40) c → Q (.dat (gD n m)) (st.set i c)) : wp Xp (callF P w k ig [.ref i, .dat (.bool b)]) st Q :=
  MP.group_c T.group T.after T.pick T.things T.perms T.cycle hk hw hi hF hz h
theorem TxG.any_c (T : TxG P it ip ic im ia ih ig) (U : TxP P ip ir is iy) (hk : 2 < k) (hw : 65 ≤ w) (hi : st[i]? = some c0) (hF : TpC z c0) (hz : z + 10 ≤ 2 ^ 30) (G : Grp n m)
    (h : ∀ p c, Part n m p → TpC (z + 3) c → Q (.dat (pD n p)) (st.set i c)) : wp Xp (callF P w k iy [.ref i, .dat (gD n m)]) st Q :=
  any_part_c U.any T.pick U.part U.some_ hk hw hi hF hz G h
end
theorem o_lenP {p : Pm} : biV .len [tupN p] = some (.dat (.int p.length)) := by
  unfold tupN
  rw [o_lenT, List.length_map]
end MP
end B6

section B7
set_option Elab.async false
set_option linter.all false
set_option maxRecDepth 100000
set_option autoImplicit false
set_option maxHeartbeats 2000000

/-! B7: backs, turned things, least parts: what they are by themselves. -/
namespace MP
open PySem
local macro_rules
  | `(tactic| array_get_dec) => `(tactic| simp (disch := first | assumption | omega | (simp only [List.length_replicate, List.length_map, List.length_range, List.length_append, List.length_cons, List.length_nil, List.length_set, List.length_take, List.length_drop, List.length_dropLast] <;> omega) | fail) only [WB, tgsLen, exists_eq_left', exists_eq_left, exists_eq', Option.some.injEq, Option.map_some, Option.bind_some, List.getElem?_cons_zero, List.getElem?_cons_succ, List.set_cons_zero, List.set_cons_succ, List.any_cons, List.any_nil, List.map_cons, List.map_nil, List.cons_append, List.nil_append, List.length_cons, List.length_nil, PyData.int.injEq, PyData.bool.injEq, PyData.str.injEq, PyData.list.injEq, PyData.tuple.injEq, D.dat.injEq, D.ref.injEq, Cell.lst.injEq, List.cons.injEq, Bool.not_true, Bool.not_false, Bool.or_false, Bool.or_true, Bool.false_or, Bool.true_or, Bool.and_true, Bool.true_and, Bool.and_false, Bool.false_and, decide_true, decide_false, decide_eq_true_eq, decide_eq_false_iff_not, true_and, and_true, false_and, and_false, Bool.false_eq_true, Bool.true_eq_false, reduceCtorEq, if_true, if_false, ite_true, ite_false, true_implies, false_implies, implies_true, forall_const, forall_eq', forall_eq, id, Bool.not_eq_true', Bool.not_eq_false', wipeE, Nat.zero_le, List.length_set, Nat.reduceAdd, Nat.reduceSub, List.replicate_succ, List.replicate_zero, Int.reduceToNat, Int.toNat_one, Int.toNat_zero, List.length_map, List.length_range, Int.toNat_natCast, TrnK, and_assoc, Option.getD_none, Option.getD_some, Int.sub_zero, cut_hi, cut_lo, cut_last, List.drop_succ_cons, List.drop_zero])
local macro_rules
  | `(tactic| sizeOf_list_dec) => `(tactic| ((try array_get_dec); repeat' (first
    | (rw [rst_cons]; array_get_dec)
    | (rw [wp_blk]; array_get_dec)
    | (rw [rst_frz]; array_get_dec)
    | (rw [wp_frz]; array_get_dec)
    | (refine And.intro (fun _ => ?_) (fun _ => ?_) <;> try array_get_dec)
    | fail)))

def d_law_back : Def := ⟨"_law_back", ["_law_group_here", "_law_a"], ["_law_group_here", "_law_a"],
  .cons (.ret (.index (.idx (.var 0) (.var 1)) (.con (.int 0)))) .nil⟩

def d_law_turned (i_law_back : Nat) : Def := ⟨"_law_turned", ["_law_group_here", "_law_thing", "_law_t"], ["_law_group_here", "_law_thing", "_law_t"],
  .cons (.ret (.idx (.idx (.var 0) (.idx (.idx (.var 0) (.var 2)) (.var 1))) (.call i_law_back (.cons (.var 0) (.cons (.var 2) .nil))))) .nil⟩

def d_law_turned_all (i_law_turned : Nat) : Def := ⟨"_law_turned_all", ["_law_group_here", "_law_things_here"], ["_law_group_here", "_law_things_here", "_law_found", "_law_one", "_law_t"],
  .cons (.asg (.name 2) (.cell (.lst (.nil))))
    (.cons (.for_ (.name 3) (.val (.var 1)) (.cons (.expr (.ext (.var 2) (.comp (.call i_law_turned (.cons (.var 0) (.cons (.var 3) (.cons (.var 4) .nil)))) (.name 4) (.rng1 (.bi .len (.cons (.var 0) .nil))) .none [("_law_t", 4)]))) .nil))
    (.cons (.ret (.var 2)) .nil))⟩

def d_is_kept (i_turned_all : Nat) : Def := ⟨"is_kept", ["group", "part"], ["group", "part", "met", "one"],
  .cons (.asg (.name 2) (.cell (.dof (.comp (.tup (.cons (.var 3) (.cons (.con (.bool true)) .nil))) (.name 3) (.val (.var 1)) .none [("one", 3)]))))
    (.cons (.ret (.bi .all (.cons (.comp (.isinD false (.var 3) (.var 2)) (.name 3) (.val (.call i_turned_all (.cons (.var 0) (.cons (.var 1) .nil)))) .none [("one", 3)]) .nil))) .nil)⟩

def d_kept_by (i_part_by : Nat) (i_turned_all : Nat) : Def := ⟨"kept_by", ["group", "things"], ["group", "things"],
  .cons (.ret (.call i_part_by (.cons (.var 0) (.cons (.call i_turned_all (.cons (.var 0) (.cons (.var 1) .nil))) .nil)))) .nil⟩

/-- the same def but for names -/
structure Like (d d0 : Def) : Prop where
  body : ∀ C, evSts C d.body = evSts C d0.body
  ps : d.ps.length = d0.ps.length
  names : d.names.length = d0.names.length
theorem Like.refl (d : Def) : Like d d := ⟨fun _ => rfl, rfl, rfl⟩
/-! ### backs -/
def bk (n : Nat) (m : Nat → Nat → Nat) (a : Nat) : Nat := ((List.range n).findIdx? fun j => m a j == 0).getD 0
section
variable {n : Nat} {m : Nat → Nat → Nat}
theorem Grp.bk_is (G : Grp n m) {a : Nat} (ha : a < n) : (List.range n).findIdx? (fun j => m a j == 0) = some (bk n m a) ∧ bk n m a < n ∧ m a (bk n m a) = 0 ∧ m (bk n m a) a = 0 := by
  obtain ⟨b, hb, e1, e2⟩ := G.back a ha
  cases h : (List.range n).findIdx? fun j => m a j == 0 with
  | none =>
    rw [List.findIdx?_eq_none_iff] at h
    have := h b (List.mem_range.mpr hb)
    simp [e1] at this
  | some j =>
    have e : bk n m a = j := by unfold bk; rw [h]; rfl
    obtain ⟨hj, hp, _⟩ := List.findIdx?_eq_some_iff_getElem.mp h
    rw [List.length_range] at hj
    rw [List.getElem_range, beq_iff_eq] at hp
    have : j = b := G.inj ha hj hb (hp.trans e1.symm)
    subst this
    rw [e]
    exact ⟨rfl, hj, hp, e2⟩
theorem ix_back (G : Grp n m) {a : Nat} (ha : a < n) : ixV (rowD n m a) (.int 0) = some (bk n m a) := by
  have h := (G.bk_is ha).1
  show (if shal 60 (.int 0) && shalAll 60 ((List.range n).map fun j => natD (m a j)) then ((List.range n).map fun j => natD (m a j)).findIdx? fun z => PyData.eqv z (.int 0) else none) = _
  have e : ((List.range n).map fun j => natD (m a j)) = ((List.range n).map (m a)).map natD := by rw [List.map_map]; rfl
  rw [e, shal_N, List.map_map, List.findIdx?_map]
  rw [if_pos (by rfl), ← h]
  congr 1
  funext j
  show PyData.eqv (.int (m a j : Nat)) (.int 0) = _
  rw [eqv_int, Bool.eq_iff_iff, decide_eq_true_eq, beq_iff_eq]
  omega
/-- a thing turned by another one -/
def turn (n : Nat) (m : Nat → Nat → Nat) (x t : Nat) : Nat := m (m t x) (bk n m t)
theorem turn_lt (G : Grp n m) {x t : Nat} (hx : x < n) (ht : t < n) : turn n m x t < n := G.lt _ _ (G.lt _ _ ht hx) (G.bk_is ht).2.1
def tall (n : Nat) (m : Nat → Nat → Nat) (ts : List Nat) : List Nat := ts.flatMap fun x => (List.range n).map (turn n m x)
theorem tall_lt (G : Grp n m) {ts : List Nat} (h : ∀ t ∈ ts, t < n) : ∀ x ∈ tall n m ts, x < n := fun x hx => by
  obtain ⟨y, hy, hx⟩ := List.mem_flatMap.mp hx
  obtain ⟨t, ht, rfl⟩ := List.mem_map.mp hx
  exact turn_lt G (h y hy) (List.mem_range.mp ht)
theorem tall_len (n : Nat) (m : Nat → Nat → Nat) (ts : List Nat) : (tall n m ts).length = ts.length * n := by
  unfold tall
  induction ts with
  | nil => simp
  | cons t ts ih => rw [List.flatMap_cons, List.length_append, ih, List.length_map, List.length_range, List.length_cons, Nat.succ_mul, Nat.add_comm]
theorem tall_snoc (n : Nat) (m : Nat → Nat → Nat) (ts : List Nat) (x : Nat) : tall n m (ts ++ [x]) = tall n m ts ++ (List.range n).map (turn n m x) := by simp [tall]
/-! ### what comes of some things -/
noncomputable def genB (m : Nat → Nat → Nat) (ts : List Nat) (x : Nat) : Bool := @decide (Gen m ts x) (Classical.propDecidable _)
theorem genB_iff {ts : List Nat} {x : Nat} : genB m ts x = true ↔ Gen m ts x := by unfold genB; exact @decide_eq_true_iff _ (Classical.propDecidable _)
theorem gen_pL {ts fs : List Nat} (h0 : 0 ∈ fs) (hg : ∀ x ∈ fs, Gen m ts x) (hc : ∀ x ∈ fs, ∀ t ∈ ts, m x t ∈ fs) : pL n fs.contains = pL n (genB m ts) := pL_congr fun a _ => by
  rw [Bool.eq_iff_iff, List.contains_iff_mem, genB_iff]
  refine ⟨hg a, fun h => ?_⟩
  rename_i ha
  clear ha
  induction h with
  | one => exact h0
  | step _ ht ih => exact hc _ ih _ ht
theorem gen_part (G : Grp n m) {ts : List Nat} (ht : ∀ t ∈ ts, t < n) : Part n m (genB m ts) := by
  have key : ∀ b, Gen m ts b → b < n ∧ ∀ a, a < n → Gen m ts a → Gen m ts (m a b) := by
    intro b hb
    induction hb with
    | one => exact ⟨G.pos, fun a ha h => by rw [G.one' a ha]; exact h⟩
    | step hb htt ih =>
      refine ⟨G.lt _ _ ih.1 (ht _ htt), fun a ha h => ?_⟩
      rw [← G.assoc _ _ _ ha ih.1 (ht _ htt)]
      exact .step (ih.2 a ha h) htt
  refine ⟨genB_iff.mpr .one, fun a b ha _ h1 h2 => ?_⟩
  rw [genB_iff] at *
  exact (key b h2).2 a ha h1
end
/-! ### texts of rows -/
theorem o_inN {l : List Nat} {x : Nat} : inV (natD x) (.tuple (l.map natD)) = some (l.contains x) := by
  show (if shal 60 (natD x) && shalAll 60 (l.map natD) then some ((l.map natD).any fun y => PyData.eqv y (natD x)) else none) = _
  rw [shal_N, if_pos (by rfl), List.any_map, Option.some.injEq]
  rw [Bool.eq_iff_iff, List.any_eq_true, List.contains_iff_mem]
  constructor
  · rintro ⟨y, hy, e⟩
    have : PyData.eqv (.int (y : Int)) (.int (x : Int)) = true := e
    rw [eqv_int, decide_eq_true_eq] at this
    have : y = x := by omega
    exact this ▸ hy
  · intro h
    refine ⟨x, h, ?_⟩
    show PyData.eqv (.int (x : Int)) (.int (x : Int)) = true
    rw [eqv_int, decide_eq_true rfl]
theorem mkK_puts : ∀ {l fs : List Nat}, (fs ++ l).Nodup → dPuts (mkK fs) (mkK l) = mkK (fs ++ l)
  | [], fs, _ => by rw [List.append_nil]; rfl
  | x :: l, fs, h => by
    have hx : x ∉ fs := fun z => by
      rw [List.nodup_append] at h
      exact h.2.2 x z x (List.mem_cons_self ..) rfl
    have e : fs ++ x :: l = (fs ++ [x]) ++ l := by simp
    show dPuts (dPut (natD x) (.bool true) (mkK fs)) (mkK l) = _
    rw [mkK_put hx, e]
    exact mkK_puts (by rw [← e]; exact h)
theorem pairs_tr : ∀ l : List Nat, pairsL (l.map fun k => .tuple [natD k, .bool true]) = some (mkK l)
  | [] => rfl
  | x :: l => by
    rw [List.map_cons, pairsL, pairs_tr l]
    rfl
section
variable {Xp : Exc → Store → Prop} {P : List Def} {w k f : Nat} {st : Store} {Q : D → Store → Prop} {n : Nat} {m : Nat → Nat → Nat} {d : Def}
theorem back_w (hf : P[f]? = some d) (hl : Like d d_law_back) (hk : 0 < k) (G : Grp n m) {a : Nat} (ha : a < n) : wp Xp (callF P w k f [.dat (gD n m), .dat (natD a)]) st Q ↔ Q (.dat (natD (bk n m a))) st := runs_iff fun R hR => by
  refine wp_call' hf (by rw [hl.ps]; rfl) (by omega) ?_; rw [hl.body, hl.names]; simp only [d_law_back, List.map_cons, List.map_nil, List.length_cons, List.length_nil]; rw [wp_blk]
  simp? only [GB, show ∀ i, seqD (.dat (rowD n m i)) = some (rowD n m i) from fun _ => rfl, ix_back G ha]
  exact hR
theorem turned_w {ib : Nat} {db : Def} (hf : P[f]? = some d) (hl : Like d (d_law_turned ib)) (hb : P[ib]? = some db) (hlb : Like db d_law_back) (hk : 1 < k) (G : Grp n m) {x t : Nat} (hx : x < n) (ht : t < n) :
    wp Xp (callF P w k f [.dat (gD n m), .dat (natD x), .dat (natD t)]) st Q ↔ Q (.dat (natD (turn n m x t))) st := runs_iff fun R hR => by
  have h1 := G.lt t x ht hx
  have h2 := (G.bk_is ht).2.1
  refine wp_call' hf (by rw [hl.ps]; rfl) (by omega) ?_; rw [hl.body, hl.names]; simp only [d_law_turned, List.map_cons, List.map_nil, List.length_cons, List.length_nil]; rw [wp_blk]
  simp? only [GB, back_w (k := k - 1) hb hlb (by omega) G ht]
  exact hR
/-- the defs by which things are turned -/
structure TxT (P : List Def) (ib it ia : Nat) : Prop where
  back : ∃ d, P[ib]? = some d ∧ Like d d_law_back
  turned : ∃ d, P[it]? = some d ∧ Like d (d_law_turned ib)
  all : ∃ d, P[ia]? = some d ∧ Like d (d_law_turned_all it)
theorem TxT.turned_w {ib it ia : Nat} (T : TxT P ib it ia) (hk : 1 < k) (G : Grp n m) {x t : Nat} (hx : x < n) (ht : t < n) : wp Xp (callF P w k it [.dat (gD n m), .dat (natD x), .dat (natD t)]) st Q ↔ Q (.dat (natD (turn n m x t))) st := by
  obtain ⟨d1, h1, l1⟩ := T.back
  obtain ⟨d2, h2, l2⟩ := T.turned
  exact MP.turned_w h2 l2 h1 l1 hk G hx ht
theorem TxT.all_w {ib it ia : Nat} (T : TxT P ib it ia) (hk : 2 < k) (G : Grp n m) {dd : PyData} {ts : List Nat} (hs : seqOf (.dat dd) = some (ts.map natD)) (ht : ∀ t ∈ ts, t < n) (hl : ts.length ≤ 1000) :
    wp Xp (callF P w k ia [.dat (gD n m), .dat dd]) st Q ↔ Q (.newL ((tall n m ts).map natD)) st := runs_iff fun R hR => by
  have n24 := G.le
  obtain ⟨d3, h3, l3⟩ := T.all
  refine wp_call' h3 (by rw [l3.ps]; rfl) (by omega) ?_; rw [l3.body, l3.names]; simp only [d_law_turned_all, List.map_cons, List.map_nil, List.length_cons, List.length_nil]; rw [wp_blk]
  (repeat' (first | simp? only [SA, hs] | rw [rst_cons] | rw [wp_blk] | rw [rst_frz] | rw [wp_frz] | (refine And.intro (fun _ => ?_) (fun _ => ?_)) | fail))
  refine for_by (e := natD) (l := ts) (fun j ρ s => ∃ x3 : Option D, ρ = [some (.dat (gD n m)), some (.dat dd), some (.ref st.length), x3, none] ∧ s = st ++ [.lst ((tall n m (ts.take j)).map natD)]) ⟨none, rfl, rfl⟩ ?_ ?_
  · rintro j x ρ1 s1 hx ⟨x3, rfl, rfl⟩
    have hxn := ht x (List.mem_of_getElem? hx)
    have hj : j < ts.length := (List.getElem?_eq_some_iff.mp hx).1
    have e4 : ts.take (j + 1) = ts.take j ++ [x] := by rw [List.take_succ, hx]; rfl
    have l4 := tall_len n m (ts.take j)
    rw [List.length_take] at l4
    have l5 : min j ts.length * n ≤ 1000 * 60 := Nat.mul_le_mul (by omega) n24
    (repeat' (first | simp? only [SA, GB] | rw [rst_cons] | rw [wp_blk] | rw [rst_frz] | rw [wp_frz] | (refine And.intro (fun _ => ?_) (fun _ => ?_)) | fail))
    refine lc_map (e := fun k : Nat => .int k) (l := List.range n) (g := fun t => natD (turn n m x t)) (by first | omega | (simp only [List.length_range, List.length_map, List.length_replicate, List.length_append, List.length_cons, List.length_nil]; omega)) (fun t htr R h => ?_) ?_
    · have htn := List.mem_range.mp htr
      simp? only [natD_is, T.turned_w]
      exact h
    · (repeat' (first | simp? only [SA, GB] | rw [rst_cons] | rw [wp_blk] | rw [rst_frz] | rw [wp_frz] | (refine And.intro (fun _ => ?_) (fun _ => ?_)) | fail))
      refine ⟨_, rfl, ?_⟩
      rw [e4, tall_snoc, List.map_append, List.map_map]
      rfl
  · rintro ρ1 s1 ⟨x3, rfl, rfl⟩
    rw [List.take_length]
    (repeat' (first | simp? only [SA] | rw [rst_cons] | rw [wp_blk] | rw [rst_frz] | rw [wp_frz] | (refine And.intro (fun _ => ?_) (fun _ => ?_)) | fail))
    exact hR
theorem part_w (hf : P[f]? = some d) (hl : Like d d_law_part) (hk : 0 < k) (hw : 65 ≤ w) (G : Grp n m) {dd : PyData} {ts : List Nat} (hs : seqOf (.dat dd) = some (ts.map natD)) (ht : ∀ t ∈ ts, t < n) :
    wp Xp (callF P w k f [.dat (gD n m), .dat dd]) st Q ↔ Q (.dat (pD n (genB m ts))) st := runs_iff fun R hR => by
  have n24 := G.le
  have n1 := G.pos
  refine wp_call' hf (by rw [hl.ps]; rfl) (by omega) ?_; rw [hl.body, hl.names]; simp only [d_law_part, List.map_cons, List.map_nil, List.length_cons, List.length_nil]; rw [wp_blk]
  (repeat' (first | simp? only [SA, GB, Nat.reduceLeDiff] | rw [rst_cons] | rw [wp_blk] | rw [rst_frz] | rw [wp_frz] | (refine And.intro (fun _ => ?_) (fun _ => ?_)) | fail))
  refine while_by (fuel := w) (fun mm ρ s => ∃ (fs ls : List Nat) (x4 x5 x6 : Option D), ρ = [some (.dat (gD n m)), some (.dat dd), some (.ref st.length), some (.ref (st.length + 1)), x4, x5, x6] ∧ s = st ++ [.dct false (mkK fs), .lst (ls.map natD)] ∧ fs.Nodup ∧ (∀ x ∈ fs, x < n) ∧ 0 ∈ fs ∧ (∀ x ∈ fs, Gen m ts x) ∧ (∀ x ∈ ls, x ∈ fs) ∧ (∀ x ∈ fs, x ∉ ls → ∀ t ∈ ts, m x t ∈ fs) ∧ ls.length + (n - fs.length) ≤ mm ∧ mm ≤ n) n (by omega) ⟨[0], [0], none, none, none, rfl, rfl, by simp, fun x hx => by (rw [List.mem_singleton.mp hx]; omega), by simp, fun x hx => by rw [List.mem_singleton.mp hx]; exact .one, by simp, by simp, by simp only [List.length_cons, List.length_nil]; omega, Nat.le_refl _⟩ ?_
  rintro mm ρ1 s1 ⟨fs, ls, x4, x5, x6, rfl, rfl, nd, lt, f0, fg, lf, cl, hm, hmn⟩
  rcases List.eq_nil_or_concat ls with rfl | ⟨ls, q, rfl⟩
  · (repeat' (first | simp? only [SA, GB] | rw [rst_cons] | rw [wp_blk] | rw [rst_frz] | rw [wp_frz] | (refine And.intro (fun _ => ?_) (fun _ => ?_)) | fail))
    have l24 := nodup_le nd lt
    simp? only [SA, GB, isort_N nd lt]
    refine ⟨by omega, ?_⟩
    have := gen_pL (n := n) f0 fg fun x hx t htt => cl x hx (by simp) t htt
    unfold pD at hR
    rw [this]
    exact hR
  · rw [List.concat_eq_append] at *
    have hq := lf q (by simp)
    have hqn := lt q hq
    rw [List.length_append, List.length_singleton] at hm
    (repeat' (first | simp? only [SA, GB, hs] | rw [rst_cons] | rw [wp_blk] | rw [rst_frz] | rw [wp_frz] | (refine And.intro (fun _ => ?_) (fun _ => ?_)) | fail))
    refine for_by (e := natD) (l := ts) (fun j ρ s => ∃ (fs2 ls2 : List Nat) (y5 y6 : Option D), ρ = [some (.dat (gD n m)), some (.dat dd), some (.ref st.length), some (.ref (st.length + 1)), some (.dat (natD q)), y5, y6] ∧ s = st ++ [.dct false (mkK fs2), .lst (ls2.map natD)] ∧ fs2.Nodup ∧ (∀ x ∈ fs2, x < n) ∧ (∀ x ∈ fs, x ∈ fs2) ∧ (∀ x ∈ fs2, Gen m ts x) ∧ (∀ x ∈ ls2, x ∈ fs2) ∧ (∀ x ∈ fs2, x ∉ ls2 → x ≠ q → ∀ t ∈ ts, m x t ∈ fs2) ∧ (∀ t ∈ ts.take j, m q t ∈ fs2) ∧ ls2.length + (n - fs2.length) ≤ ls.length + (n - fs.length)) ⟨fs, ls, x5, x6, rfl, rfl, nd, lt, fun x hx => hx, fg, fun x hx => lf x (by simp [hx]), fun x hx hl hxq => cl x hx (by simp [hl, hxq]), by simp, Nat.le_refl _⟩ ?_ ?_
    · rintro j t ρ1 s1 htj ⟨fs2, ls2, y5, y6, rfl, rfl, nd2, lt2, sub2, fg2, lf2, cl2, q2, hm2⟩
      have htm := List.mem_of_getElem? htj
      have htn := ht t htm
      have hlt := G.lt q t hqn htn
      have l24 := nodup_le nd2 lt2
      have tk : ∀ u ∈ ts.take (j + 1), u ∈ ts.take j ∨ u = t := fun u hu => by
        rw [List.take_succ, htj] at hu
        simpa using hu
      by_cases hin : m q t ∈ fs2
      · have hc : fs2.contains (m q t) = true := List.contains_iff_mem.mpr hin
        (repeat' (first | simp? only [SA, GB, hc] | rw [rst_cons] | rw [wp_blk] | rw [rst_frz] | rw [wp_frz] | (refine And.intro (fun _ => ?_) (fun _ => ?_)) | fail))
        refine ⟨fs2, ls2, _, _, rfl, rfl, nd2, lt2, sub2, fg2, lf2, cl2, fun u hu => ?_, hm2⟩
        rcases tk u hu with hu | rfl
        · exact q2 u hu
        · exact hin
      · have hc : fs2.contains (m q t) = false := by rw [Bool.eq_false_iff, ne_eq, List.contains_iff_mem]; exact hin
        have l25 := nodup_lt nd2 lt2 hlt hin
        (repeat' (first | simp? only [SA, GB, hc, mkK_put hin] | rw [rst_cons] | rw [wp_blk] | rw [rst_frz] | rw [wp_frz] | (refine And.intro (fun _ => ?_) (fun _ => ?_)) | fail))
        refine ⟨fs2 ++ [m q t], ls2 ++ [m q t], _, _, rfl, by rw [mapN1], ?_, ?_, ?_, ?_, ?_, ?_, ?_, ?_⟩
        · exact (List.perm_append_comm (l₁ := fs2) (l₂ := [m q t])).nodup_iff.mpr (List.nodup_cons.mpr ⟨hin, nd2⟩)
        · intro x hx
          rcases List.mem_append.mp hx with hx | hx
          · exact lt2 x hx
          · rw [List.mem_singleton.mp hx]; exact hlt
        · exact fun x hx => List.mem_append_left _ (sub2 x hx)
        · intro x hx
          rcases List.mem_append.mp hx with hx | hx
          · exact fg2 x hx
          · rw [List.mem_singleton.mp hx]; exact .step (fg2 q (sub2 q hq)) htm
        · intro x hx
          rcases List.mem_append.mp hx with hx | hx
          · exact List.mem_append_left _ (lf2 x hx)
          · exact List.mem_append_right _ hx
        · intro x hx hn hxq u hu
          rw [List.mem_append] at hn
          rcases List.mem_append.mp hx with hx | hx
          · exact List.mem_append_left _ (cl2 x hx (fun z => hn (.inl z)) hxq u hu)
          · exact absurd (.inr hx) hn
        · intro u hu
          rcases tk u hu with hu | rfl
          · exact List.mem_append_left _ (q2 u hu)
          · exact List.mem_append_right _ (List.mem_singleton.mpr rfl)
        · simp only [List.length_append, List.length_singleton]
          omega
    · rintro ρ1 s1 ⟨fs2, ls2, y5, y6, rfl, rfl, nd2, lt2, sub2, fg2, lf2, cl2, q2, hm2⟩
      rw [List.take_length] at q2
      array_get_dec
      refine ⟨mm - 1, by omega, fs2, ls2, _, _, _, rfl, rfl, nd2, lt2, sub2 0 f0, fg2, lf2, fun x hx hl u hu => ?_, by omega, by omega⟩
      by_cases hxq : x = q
      · subst hxq
        exact q2 u hu
      · exact cl2 x hx hl hxq u hu
/-- is_kept -/
def keptB (n : Nat) (m : Nat → Nat → Nat) (p : Nat → Bool) : Bool := (tall n m (pL n p)).all (pL n p).contains
theorem is_kept_w {ib it ia : Nat} (hf : P[f]? = some (d_is_kept ia)) (T : TxT P ib it ia) (hk : 3 < k) (G : Grp n m) {p : Nat → Bool} :
    wp Xp (callF P w k f [.dat (gD n m), .dat (pD n p)]) st Q ↔ Q (.dat (.bool (keptB n m p))) st := runs_iff fun R hR => by
  have n24 := G.le
  have pl := pL_le n p
  unfold pD
  refine wp_call' hf rfl (by omega) ?_; simp only [d_is_kept, List.map_cons, List.map_nil, List.length_cons, List.length_nil]; rw [wp_blk]
  sizeOf_list_dec
  refine lc_map (e := natD) (l := pL n p) (g := fun k => .tuple [natD k, .bool true]) (by omega) (fun h hh R hR => ?_) ?_
  · array_get_dec
    exact hR
  · have e1 := pairs_tr (pL n p)
    have e2 := mkK_puts (l := pL n p) (fs := []) (by rw [List.nil_append]; exact pL_nodup n p)
    rw [List.nil_append] at e2
    have e3 : dPuts [] (mkK (pL n p)) = mkK (pL n p) := e2
    have hlt : ∀ t ∈ pL n p, t < n := fun t ht => (mem_pL.mp ht).1
    have l4 := tall_len n m (pL n p)
    have l5 : (pL n p).length * n ≤ 60 * 60 := Nat.mul_le_mul (by omega) n24
    (repeat' (first | simp? only [SA] | rw [rst_cons] | rw [wp_blk] | rw [rst_frz] | rw [wp_frz] | (refine And.intro (fun _ => ?_) (fun _ => ?_)) | fail))
    refine ⟨_, _, rfl, e1, ?_⟩
    rw [e3]
    (repeat' (first | simp? only [SA, T.all_w (k := k - 1) (by omega) G (dd := .tuple ((pL n p).map natD)) (ts := pL n p) rfl hlt (by omega)] | rw [rst_cons] | rw [wp_blk] | rw [rst_frz] | rw [wp_frz] | (refine And.intro (fun _ => ?_) (fun _ => ?_)) | fail))
    refine lc_map (e := natD) (l := tall n m (pL n p)) (g := fun x => .bool ((pL n p).contains x)) (by omega) (fun h hh R hR => ?_) ?_
    · simp? only [SA, GB]
      exact hR
    · (repeat' (first | simp? only [SA] | rw [rst_cons] | rw [wp_blk] | rw [rst_frz] | rw [wp_frz] | (refine And.intro (fun _ => ?_) (fun _ => ?_)) | fail))
      exact hR
theorem kept_by_w {ib it ia ip : Nat} {dp : Def} (hf : P[f]? = some (d_kept_by ip ia)) (hp : P[ip]? = some dp) (hlp : Like dp d_law_part) (T : TxT P ib it ia) (hk : 3 < k) (hw : 65 ≤ w) (G : Grp n m) {dd : PyData} {ts : List Nat} (hs : seqOf (.dat dd) = some (ts.map natD)) (ht : ∀ t ∈ ts, t < n) (hl : ts.length ≤ 1000) :
    wp Xp (callF P w k f [.dat (gD n m), .dat dd]) st Q ↔ Q (.dat (pD n (genB m (tall n m ts)))) st := runs_iff fun R hR => by
  refine wp_call' hf rfl (by omega) ?_; simp only [d_kept_by, List.map_cons, List.map_nil, List.length_cons, List.length_nil]; rw [wp_blk]
  simp? only [T.all_w (k := k - 1) (by omega) G hs ht hl, part_w (k := k - 1) hp hlp (by omega) hw G (dd := .list ((tall n m ts).map natD)) (ts := tall n m ts) rfl (tall_lt G ht)]
  exact hR
end
end MP
end B7

section B8
set_option Elab.async false
set_option linter.all false
set_option maxRecDepth 100000
set_option autoImplicit false
set_option maxHeartbeats 2000000

/-! B8: what is a deed. -/
namespace MP
open PySem
local macro_rules
  | `(tactic| array_get_dec) => `(tactic| simp (disch := first | assumption | omega | (simp only [List.length_replicate, List.length_map, List.length_range, List.length_append, List.length_cons, List.length_nil, List.length_set, List.length_take, List.length_drop, List.length_dropLast] <;> omega) | fail) only [WB, tgsLen, exists_eq_left', exists_eq_left, exists_eq', Option.some.injEq, Option.map_some, Option.bind_some, List.getElem?_cons_zero, List.getElem?_cons_succ, List.set_cons_zero, List.set_cons_succ, List.any_cons, List.any_nil, List.map_cons, List.map_nil, List.cons_append, List.nil_append, List.length_cons, List.length_nil, PyData.int.injEq, PyData.bool.injEq, PyData.str.injEq, PyData.list.injEq, PyData.tuple.injEq, D.dat.injEq, D.ref.injEq, Cell.lst.injEq, List.cons.injEq, Bool.not_true, Bool.not_false, Bool.or_false, Bool.or_true, Bool.false_or, Bool.true_or, Bool.and_true, Bool.true_and, Bool.and_false, Bool.false_and, decide_true, decide_false, decide_eq_true_eq, decide_eq_false_iff_not, true_and, and_true, false_and, and_false, Bool.false_eq_true, Bool.true_eq_false, reduceCtorEq, if_true, if_false, ite_true, ite_false, true_implies, false_implies, implies_true, forall_const, forall_eq', forall_eq, id, Bool.not_eq_true', Bool.not_eq_false', wipeE, Nat.zero_le, List.length_set, Nat.reduceAdd, Nat.reduceSub, List.replicate_succ, List.replicate_zero, Int.reduceToNat, Int.toNat_one, Int.toNat_zero, List.length_map, List.length_range, Int.toNat_natCast, TrnK, and_assoc, Option.getD_none, Option.getD_some, Int.sub_zero, cut_hi, cut_lo, cut_last, List.drop_succ_cons, List.drop_zero])
local macro_rules
  | `(tactic| sizeOf_list_dec) => `(tactic| ((try array_get_dec); repeat' (first
    | (rw [rst_cons]; array_get_dec)
    | (rw [wp_blk]; array_get_dec)
    | (rw [rst_frz]; array_get_dec)
    | (rw [wp_frz]; array_get_dec)
    | (refine And.intro (fun _ => ?_) (fun _ => ?_) <;> try array_get_dec)
    | fail)))

/-! ### perms of nats -/
def permP (p : Pm) : Prop := 1 ≤ p.length ∧ p.length ≤ 24 ∧ p.Perm (List.range p.length)
theorem permP.lt {p : Pm} (h : permP p) : ∀ k ∈ p, k < p.length := fun k hk => List.mem_range.mp (h.2.2.mem_iff.mp hk)
theorem isPermB_nat {p : Pm} (h : permP p) : isPermB (tupN p) = true := by
  obtain ⟨h1, h2, h3⟩ := h
  have e : (tupN p) = .tuple ((p.map fun k : Nat => (k : Int)).map .int) := by unfold tupN; rw [mapNI]
  have e2 : isort (p.map fun k : Nat => (k : Int)) = (List.range p.length).map fun k : Nat => (k : Int) := by
    have a1 := up_perm (isort_up (p.map fun k : Nat => (k : Int))) (nat_up p.length) ((isort_perm _).trans (h3.map _))
    exact a1
  have e3 : ((p.map fun k : Nat => (k : Int)).map PyData.int).all isWhole = true := by
    rw [List.all_eq_true]
    intro x hx
    obtain ⟨y, _, rfl⟩ := List.mem_map.mp hx
    rfl
  rw [e]
  simp only [isPermB, e3, allInts_map, List.length_map, e2, decide_eq_true h1, decide_eq_true h2, Bool.and_self, decide_true]
def toN : PyData → Nat
  | .int i => i.toNat
  | _ => 0
def toPm : PyData → Pm
  | .tuple xs => xs.map toN
  | _ => []
theorem toPm_tupN (p : Pm) : toPm (tupN p) = p := by
  show (p.map natD).map toN = p
  rw [List.map_map]
  refine (List.map_congr_left fun k _ => ?_).trans (List.map_id _)
  show ((k : Int)).toNat = k
  omega
/-- rows of perms that go as the things do -/
def rowsB (n : Nat) (m : Nat → Nat → Nat) (ps : List Pm) : Bool :=
  (ps.all fun p => p.length == (ps.getD 0 []).length) && (ps.getD 0 [] == List.range (ps.getD 0 []).length) && (List.range n).all fun a => (List.range n).all fun b => ps.getD (m a b) [] == aft (ps.getD a []) (ps.getD b [])
def deedB (n : Nat) (m : Nat → Nat → Nat) : PyData → Bool
  | .tuple xs => decide (xs.length = n) && xs.all isPermB && rowsB n m (xs.map toPm)
  | _ => false
theorem o_gTT {l : List Pm} {j : Nat} (h : j < l.length) : idxV (.tuple (l.map tupN)) (natD j) = some (tupN (l.getD j [])) := by
  rw [natD, o_ixt (by omega) (by rw [List.length_map]; omega), Int.toNat_natCast, List.getElem?_map, List.getElem?_eq_getElem h, List.getD_eq_getElem?_getD, List.getElem?_eq_getElem h]
  rfl
section
variable {Xp : Exc → Store → Prop} {P : List Def} {w k f : Nat} {st : Store} {Q : D → Store → Prop} {n : Nat} {m : Nat → Nat → Nat} {d : Def}
end
end MP
end B8

section B9
set_option Elab.async false
set_option linter.all false
set_option maxRecDepth 100000
set_option autoImplicit false
set_option maxHeartbeats 2000000

/-! B9: numbers of sides; the deed on sides. -/
namespace MP
open PySem
local macro_rules
  | `(tactic| array_get_dec) => `(tactic| simp (disch := first | assumption | omega | (simp only [List.length_replicate, List.length_map, List.length_range, List.length_append, List.length_cons, List.length_nil, List.length_set, List.length_take, List.length_drop, List.length_dropLast] <;> omega) | fail) only [WB, tgsLen, exists_eq_left', exists_eq_left, exists_eq', Option.some.injEq, Option.map_some, Option.bind_some, List.getElem?_cons_zero, List.getElem?_cons_succ, List.set_cons_zero, List.set_cons_succ, List.any_cons, List.any_nil, List.map_cons, List.map_nil, List.cons_append, List.nil_append, List.length_cons, List.length_nil, PyData.int.injEq, PyData.bool.injEq, PyData.str.injEq, PyData.list.injEq, PyData.tuple.injEq, D.dat.injEq, D.ref.injEq, Cell.lst.injEq, List.cons.injEq, Bool.not_true, Bool.not_false, Bool.or_false, Bool.or_true, Bool.false_or, Bool.true_or, Bool.and_true, Bool.true_and, Bool.and_false, Bool.false_and, decide_true, decide_false, decide_eq_true_eq, decide_eq_false_iff_not, true_and, and_true, false_and, and_false, Bool.false_eq_true, Bool.true_eq_false, reduceCtorEq, if_true, if_false, ite_true, ite_false, true_implies, false_implies, implies_true, forall_const, forall_eq', forall_eq, id, Bool.not_eq_true', Bool.not_eq_false', wipeE, Nat.zero_le, List.length_set, Nat.reduceAdd, Nat.reduceSub, List.replicate_succ, List.replicate_zero, Int.reduceToNat, Int.toNat_one, Int.toNat_zero, List.length_map, List.length_range, Int.toNat_natCast, TrnK, and_assoc, Option.getD_none, Option.getD_some, Int.sub_zero, cut_hi, cut_lo, cut_last, List.drop_succ_cons, List.drop_zero])
local macro_rules
  | `(tactic| sizeOf_list_dec) => `(tactic| ((try array_get_dec); repeat' (first
    | (rw [rst_cons]; array_get_dec)
    | (rw [wp_blk]; array_get_dec)
    | (rw [rst_frz]; array_get_dec)
    | (rw [wp_frz]; array_get_dec)
    | (refine And.intro (fun _ => ?_) (fun _ => ?_) <;> try array_get_dec)
    | fail)))

def d_side_numbers : Def := ⟨"side_numbers", ["rows"], ["rows", "found", "k", "row", "one"],
  .cons (.asg (.name 1) (.cell (.emp false)))
    (.cons (.for_ (.tup (.cons (.name 2) (.cons (.name 3) .nil))) (.enum (.var 0)) (.cons (.for_ (.name 4) (.val (.var 3)) (.cons (.asg (.subD (.var 1) (.var 4)) (.var 2)) .nil)) .nil))
    (.cons (.ret (.var 1)) .nil))⟩

/-! ### dicts of numbers -/
def kvN (l : List (Nat × Nat)) : List (PyData × PyData) := l.map fun p => (natD p.1, natD p.2)
theorem kvN_len {l : List (Nat × Nat)} : (kvN l).length = l.length := List.length_map _
theorem kvN_put {l : List (Nat × Nat)} {x k : Nat} (h : x ∉ l.map (·.1)) : dPut (natD x) (natD k) (kvN l) = kvN (l ++ [(x, k)]) := by
  have e : ((kvN l).any fun p => same p.1 (natD x)) = false := by
    unfold kvN
    rw [List.any_map, List.any_eq_false]
    intro p hp
    show ¬ same (natD p.1) (natD x) = true
    rw [same_N, decide_eq_true_eq]
    rintro rfl
    exact h (List.mem_map.mpr ⟨p, hp, rfl⟩)
  rw [dPut, e]
  unfold kvN
  rw [List.map_append]
  rfl
theorem kvN_get {l : List (Nat × Nat)} {x : Nat} : dGet (kvN l) (natD x) = (l.find? fun p => p.1 == x).map fun p => natD p.2 := by
  unfold dGet kvN
  rw [List.find?_map, Option.map_map]
  congr 1
  congr 1
  funext p
  show same (natD p.1) (natD x) = _
  rw [same_N]
  rfl
/-- for each thing the number of its row -/
def prsF : List Pm → Nat → List (Nat × Nat)
  | [], _ => []
  | r :: l, k => (r.map fun x => (x, k)) ++ prsF l (k + 1)
theorem prsF_app : ∀ (a b : List Pm) (k : Nat), prsF (a ++ b) k = prsF a k ++ prsF b (k + a.length)
  | [], b, k => by simp [prsF]
  | r :: a, b, k => by
    rw [List.cons_append, prsF, prsF, prsF_app a b (k + 1), List.append_assoc, List.length_cons]
    congr 3
    omega
theorem prsF_keys : ∀ (l : List Pm) (k : Nat), (prsF l k).map (·.1) = l.flatten
  | [], _ => rfl
  | r :: l, k => by
    rw [prsF, List.map_append, prsF_keys l (k + 1), List.flatten_cons, List.map_map]
    congr 1
    exact (List.map_congr_left fun x _ => rfl).trans (List.map_id _)
theorem prsF_len (l : List Pm) (k : Nat) : (prsF l k).length = l.flatten.length := by rw [← prsF_keys l k, List.length_map]
def nb (l : List Pm) (x : Nat) : Nat := l.findIdx fun r => r.contains x
theorem find_row (k x : Nat) : ∀ r : List Nat, (r.map fun y => (y, k)).find? (fun p => p.1 == x) = if r.contains x then some (x, k) else none
  | [] => rfl
  | y :: r => by
    rw [List.map_cons, List.find?_cons, find_row k x r, List.contains_cons]
    by_cases h : y = x
    · subst h
      simp
    · have h1 : (y == x) = false := beq_eq_false_iff_ne.mpr h
      have h2 : (x == y) = false := beq_eq_false_iff_ne.mpr fun e => h e.symm
      simp only [h1, h2, Bool.false_or]
theorem prsF_find : ∀ {l : List Pm} {k x : Nat}, x ∈ l.flatten → (prsF l k).find? (fun p => p.1 == x) = some (x, k + nb l x)
  | r :: l, k, x, h => by
    rw [prsF, List.find?_append, find_row]
    by_cases hx : r.contains x = true
    · rw [if_pos hx]
      unfold nb
      rw [List.findIdx_cons, hx]
      rfl
    · rw [if_neg hx]
      have hm : x ∈ l.flatten := by
        rw [List.flatten_cons, List.mem_append] at h
        exact h.resolve_left fun z => hx (List.contains_iff_mem.mpr z)
      have e : nb (r :: l) x = nb l x + 1 := by
        unfold nb
        rw [List.findIdx_cons, Bool.eq_false_iff.mpr hx]
        rfl
      rw [e, Option.none_or, prsF_find hm]
      congr 2
      omega
theorem prs_get {l : List Pm} {x : Nat} (h : x ∈ l.flatten) : dGet (kvN (prsF l 0)) (natD x) = some (natD (nb l x)) := by
  rw [kvN_get, prsF_find h, Nat.zero_add]
  rfl
theorem nb_lt {l : List Pm} {x : Nat} (h : x ∈ l.flatten) : nb l x < l.length := by
  unfold nb
  rw [List.findIdx_lt_length]
  obtain ⟨r, hr, hx⟩ := List.mem_flatten.mp h
  exact ⟨r, hr, List.contains_iff_mem.mpr hx⟩
theorem nb_mem {l : List Pm} {x : Nat} (h : x ∈ l.flatten) : x ∈ l.getD (nb l x) [] := by
  have := nb_lt h
  rw [List.getD_eq_getElem?_getD, List.getElem?_eq_getElem this]
  exact List.contains_iff_mem.mp (List.findIdx_getElem (w := this))
theorem enumL_rng (l : List Pm) : enumL (l.map tupN) 0 = (List.range l.length).map fun j => .tuple [natD j, tupN (l.getD j [])] := by
  refine List.ext_getElem? fun i => ?_
  rw [enumL_get, List.getElem?_map, List.getElem?_map]
  by_cases h : i < l.length
  · have e : l.getD i [] = l[i] := by rw [List.getD_eq_getElem?_getD, List.getElem?_eq_getElem h]; rfl
    rw [List.getElem?_eq_getElem h, List.getElem?_range h]
    show some (PyData.tuple [.int (0 + (i : Int)), tupN l[i]]) = some (.tuple [natD i, tupN (l.getD i [])])
    rw [e, Int.zero_add]
    rfl
  · rw [List.getElem?_eq_none (by omega), List.getElem?_eq_none (by rw [List.length_range]; omega)]
    rfl
section
variable {Xp : Exc → Store → Prop} {P : List Def} {w k f : Nat} {st : Store} {Q : D → Store → Prop} {n : Nat} {m : Nat → Nat → Nat} {p : Nat → Bool}
theorem side_numbers_w (hf : P[f]? = some d_side_numbers) (hk : 0 < k) {l : List Pm} (nd : l.flatten.Nodup) (hl : l.flatten.length ≤ 1000) (hl2 : l.length ≤ 1000) : wp Xp (callF P w k f [.dat (.tuple (l.map tupN))]) st Q ↔ Q (.newD false (kvN (prsF l 0))) st := runs_iff fun R hR => by
  refine wp_call' hf rfl (by omega) ?_; simp only [d_side_numbers, List.map_cons, List.map_nil, List.length_cons, List.length_nil]; rw [wp_blk]
  (repeat' (first | simp? only [SA, enumL_rng] | rw [rst_cons] | rw [wp_blk] | rw [rst_frz] | rw [wp_frz] | (refine And.intro (fun _ => ?_) (fun _ => ?_)) | fail))
  refine for_by (l := List.range l.length) (e := fun j => .tuple [natD j, tupN (l.getD j [])]) (fun j ρ s => ∃ x2 x3 x4 : Option D, ρ = [some (.dat (.tuple (l.map tupN))), some (.ref st.length), x2, x3, x4] ∧ s = st ++ [.dct false (kvN (prsF (l.take j) 0))]) ⟨none, none, none, rfl, rfl⟩ ?_ ?_
  · rintro j x ρ1 s1 hx ⟨x2, x3, x4, rfl, rfl⟩
    obtain ⟨hj, e⟩ := List.getElem?_eq_some_iff.mp hx
    rw [List.length_range] at hj
    rw [List.getElem_range] at e
    subst e
    have e0 : l.getD j [] = l[j] := by rw [List.getD_eq_getElem?_getD, List.getElem?_eq_getElem hj]; rfl
    have e4 : l.take (j + 1) = l.take j ++ [l[j]] := by rw [List.take_succ, List.getElem?_eq_getElem hj]; rfl
    have lt : (l.take j).length = j := by rw [List.length_take]; omega
    have e5 : prsF (l.take (j + 1)) 0 = prsF (l.take j) 0 ++ l[j].map (fun x => (x, j)) := by
      rw [e4, prsF_app, lt, Nat.zero_add]
      simp [prsF]
    have nd2 : ((l.take j).flatten ++ l[j]).Nodup := by
      have : (l.take (j + 1)).flatten.Nodup := nd.sublist (by
        conv => rhs; rw [← List.take_append_drop (j + 1) l]
        rw [List.flatten_append]
        exact List.sublist_append_left _ _)
      rwa [e4, List.flatten_append, List.flatten_cons, List.flatten_nil, List.append_nil] at this
    have ll : ((l.take j).flatten ++ l[j]).length ≤ 1000 := by
      have : (l.take (j + 1)).flatten.length ≤ l.flatten.length := by
        conv => rhs; rw [← List.take_append_drop (j + 1) l]
        rw [List.flatten_append, List.length_append]
        omega
      rw [e4, List.flatten_append, List.flatten_cons, List.flatten_nil, List.append_nil] at this
      omega
    rw [List.length_append] at ll
    rw [e0]
    generalize l[j] = r at e5 nd2 ll
    have lp := prsF_len (l.take j) 0
    unfold tupN
    sizeOf_list_dec
    refine for_by (e := natD) (l := r) (fun i ρ s => ∃ x4 : Option D, ρ = [some (.dat (.tuple (l.map tupN))), some (.ref st.length), some (.dat (natD j)), some (.dat (.tuple (r.map natD))), x4] ∧ s = st ++ [.dct false (kvN (prsF (l.take j) 0 ++ (r.take i).map fun x => (x, j)))]) ⟨_, rfl, by simp⟩ ?_ ?_
    · rintro i x ρ1 s1 hx ⟨x4, rfl, rfl⟩
      have hi : i < r.length := (List.getElem?_eq_some_iff.mp hx).1
      have e6 : r.take (i + 1) = r.take i ++ [x] := by rw [List.take_succ, hx]; rfl
      have hn : x ∉ (prsF (l.take j) 0 ++ (r.take i).map fun x => (x, j)).map (·.1) := by
        rw [List.map_append, prsF_keys, List.map_map]
        have : (r.take i).map ((fun p : Nat × Nat => p.1) ∘ fun x => (x, j)) = r.take i := (List.map_congr_left fun x _ => rfl).trans (List.map_id _)
        rw [this]
        have nd4 : ((l.take j).flatten ++ r.take (i + 1)).Nodup := nd2.sublist (List.Sublist.append_left (List.take_sublist _ _) _)
        rw [e6, ← List.append_assoc, List.nodup_append] at nd4
        exact fun hm => nd4.2.2 x hm x (List.mem_singleton.mpr rfl) rfl
      have hlt : (kvN (prsF (l.take j) 0 ++ (r.take i).map fun x => (x, j))).length < LIM := by
        rw [kvN_len, List.length_append, lp, List.length_map, List.length_take, LIM]
        omega
      (repeat' (first | simp? only [SA, GB, keyOk_n, kvN_put hn, hlt] | rw [rst_cons] | rw [wp_blk] | rw [rst_frz] | rw [wp_frz] | (refine And.intro (fun _ => ?_) (fun _ => ?_)) | fail))
      exact ⟨_, rfl, by rw [e6, List.map_append, ← List.append_assoc]; rfl⟩
    · rintro ρ1 s1 ⟨x4, rfl, rfl⟩
      rw [List.take_length]
      sizeOf_list_dec
      exact ⟨_, _, _, rfl, by rw [e5]⟩
  · rintro ρ1 s1 ⟨x2, x3, x4, rfl, rfl⟩
    rw [List.length_range, List.take_length]
    (repeat' (first | simp? only [SA] | rw [rst_cons] | rw [wp_blk] | rw [rst_frz] | rw [wp_frz] | (refine And.intro (fun _ => ?_) (fun _ => ?_)) | fail))
    exact hR
/-! ### rows as lists -/
end
end MP
end B9

section B10
set_option Elab.async false
set_option linter.all false
set_option maxRecDepth 100000
set_option autoImplicit false
set_option maxHeartbeats 2000000

/-! B10: deeds, by themselves. -/
namespace MP
open PySem
local macro_rules
  | `(tactic| array_get_dec) => `(tactic| simp (disch := first | assumption | omega | (simp only [List.length_replicate, List.length_map, List.length_range, List.length_append, List.length_cons, List.length_nil, List.length_set, List.length_take, List.length_drop, List.length_dropLast] <;> omega) | fail) only [WB, tgsLen, exists_eq_left', exists_eq_left, exists_eq', Option.some.injEq, Option.map_some, Option.bind_some, List.getElem?_cons_zero, List.getElem?_cons_succ, List.set_cons_zero, List.set_cons_succ, List.any_cons, List.any_nil, List.map_cons, List.map_nil, List.cons_append, List.nil_append, List.length_cons, List.length_nil, PyData.int.injEq, PyData.bool.injEq, PyData.str.injEq, PyData.list.injEq, PyData.tuple.injEq, D.dat.injEq, D.ref.injEq, Cell.lst.injEq, List.cons.injEq, Bool.not_true, Bool.not_false, Bool.or_false, Bool.or_true, Bool.false_or, Bool.true_or, Bool.and_true, Bool.true_and, Bool.and_false, Bool.false_and, decide_true, decide_false, decide_eq_true_eq, decide_eq_false_iff_not, true_and, and_true, false_and, and_false, Bool.false_eq_true, Bool.true_eq_false, reduceCtorEq, if_true, if_false, ite_true, ite_false, true_implies, false_implies, implies_true, forall_const, forall_eq', forall_eq, id, Bool.not_eq_true', Bool.not_eq_false', wipeE, Nat.zero_le, List.length_set, Nat.reduceAdd, Nat.reduceSub, List.replicate_succ, List.replicate_zero, Int.reduceToNat, Int.toNat_one, Int.toNat_zero, List.length_map, List.length_range, Int.toNat_natCast, TrnK, and_assoc, Option.getD_none, Option.getD_some, Int.sub_zero, cut_hi, cut_lo, cut_last, List.drop_succ_cons, List.drop_zero])
local macro_rules
  | `(tactic| sizeOf_list_dec) => `(tactic| ((try array_get_dec); repeat' (first
    | (rw [rst_cons]; array_get_dec)
    | (rw [wp_blk]; array_get_dec)
    | (rw [rst_frz]; array_get_dec)
    | (rw [wp_frz]; array_get_dec)
    | (refine And.intro (fun _ => ?_) (fun _ => ?_) <;> try array_get_dec)
    | fail)))

theorem gd {α : Type} {l : List α} {d : α} {i : Nat} (h : i < l.length) : l.getD i d = l[i] := by rw [List.getD_eq_getElem?_getD, List.getElem?_eq_getElem h]; rfl
section
variable {n : Nat} {m : Nat → Nat → Nat} {p : Nat → Bool}
/-- what is known of the sides -/
structure Sds (n : Nat) (m : Nat → Nat → Nat) (p : Nat → Bool) (l : List Pm) : Prop where
  pos : 1 ≤ l.length
  le : l.length ≤ n
  at_ : ∀ i, i < l.length → (l.getD i []).getD 0 0 < n ∧ l.getD i [] = side n m p ((l.getD i []).getD 0 0) ∧ (l.getD i []).getD 0 0 ∈ l.getD i []
  inj : ∀ i j, i < l.length → j < l.length → l.getD i [] = l.getD j [] → i = j
  num : ∀ x, x < n → nb l x < l.length ∧ l.getD (nb l x) [] = side n m p x
  zero : l.getD 0 [] = side n m p 0 ∧ (l.getD 0 []).getD 0 0 = 0
theorem sds_of (G : Grp n m) (H : Part n m p) : Sds n m p (sd n m p n) := by
  have S := sdOk G H n (Nat.le_refl _)
  have sl := sd_len n m p n
  have n1 := G.pos
  have get : ∀ i (h : i < (sd n m p n).length), (sd n m p n).getD i [] = (sd n m p n)[i] := fun i h => by rw [List.getD_eq_getElem?_getD, List.getElem?_eq_getElem h]; rfl
  have mem : ∀ i, i < (sd n m p n).length → (sd n m p n).getD i [] ∈ sd n m p n := fun i h => by rw [get i h]; exact List.getElem_mem h
  have all : ∀ x, x < n → x ∈ (sd n m p n).flatten := fun x hx => List.mem_flatten.mpr ⟨_, S.all x hx, side_self G H hx⟩
  have pos : 1 ≤ (sd n m p n).length := List.length_pos_of_mem (S.all 0 n1)
  have hd : ∀ r ∈ sd n m p n, r.getD 0 0 < n ∧ r = side n m p (r.getD 0 0) ∧ r.getD 0 0 ∈ r := fun r hr => by
    obtain ⟨b, hb, e, h⟩ := S.of r hr
    have eb : r.getD 0 0 = b := by
      cases r with
      | nil => exact nomatch h
      | cons x r => cases h; rfl
    rw [eb]
    exact ⟨hb, e, by rw [e]; exact side_self G H hb⟩
  have num : ∀ x, x < n → nb (sd n m p n) x < (sd n m p n).length ∧ (sd n m p n).getD (nb (sd n m p n) x) [] = side n m p x := fun x hx => by
    have h1 := nb_lt (all x hx)
    have h2 := nb_mem (all x hx)
    obtain ⟨b1, b2, _⟩ := hd _ (mem _ h1)
    rw [b2] at h2
    exact ⟨h1, by rw [b2]; exact (side_eq G H b1 h2).symm⟩
  have inj : ∀ i j, i < (sd n m p n).length → j < (sd n m p n).length → (sd n m p n).getD i [] = (sd n m p n).getD j [] → i = j := by
    have key : ∀ i j, i < j → ∀ (hi : i < (sd n m p n).length) (hj : j < (sd n m p n).length), (sd n m p n)[i] ≠ (sd n m p n)[j] := fun i j hij hi hj e => by
      obtain ⟨a, b, h1, h2, h3⟩ := List.pairwise_iff_getElem.mp S.up i j hi hj hij
      rw [e, h2] at h1
      cases h1
      omega
    intro i j hi hj e
    rw [get i hi, get j hj] at e
    rcases Nat.lt_trichotomy i j with h | h | h
    · exact absurd e (key i j h hi hj)
    · exact h
    · exact absurd e.symm (key j i h hj hi)
  have zero : (sd n m p n).getD 0 [] = side n m p 0 ∧ ((sd n m p n).getD 0 []).getD 0 0 = 0 := by
    obtain ⟨k, hk, e⟩ := List.getElem_of_mem (S.all 0 n1)
    have h0 : ((sd n m p n).getD k []).getD 0 0 = 0 := by
      obtain ⟨b1, b2, b3⟩ := hd _ (mem k hk)
      have : 0 ∈ (sd n m p n).getD k [] := by rw [get k hk, e]; exact side_self G H n1
      obtain ⟨b, hb, eb, h⟩ := S.of _ (mem k hk)
      generalize (sd n m p n).getD k [] = r at *
      cases r with
      | nil => exact nomatch h
      | cons x r =>
        have u : (x :: r).Pairwise (· < ·) := by rw [b2]; exact pL_up _ _
        show x = 0
        rcases List.mem_cons.mp this with z | z
        · exact z.symm
        · have := (List.pairwise_cons.mp u).1 0 z
          omega
    have hk0 : k = 0 := by
      rcases Nat.eq_zero_or_pos k with z | z
      · exact z
      · obtain ⟨a, b, h1, h2, h3⟩ := List.pairwise_iff_getElem.mp S.up 0 k (by omega) hk z
        rw [get k hk] at h0
        generalize (sd n m p n)[k] = r at h0 h2
        cases r with
        | nil => exact nomatch h2
        | cons x0 r =>
          have e1 : x0 = b := Option.some.inj h2
          have e2 : x0 = 0 := h0
          omega
    subst hk0
    exact ⟨by rw [get 0 hk, e], h0⟩
  exact ⟨pos, sl, fun i hi => hd _ (mem i hi), inj, num, zero⟩
theorem side_mul (G : Grp n m) {a x y : Nat} (ha : a < n) (hy : y < n) (hx : x ∈ side n m p y) : m a x ∈ side n m p (m a y) := by
  obtain ⟨h, hh, ph, rfl⟩ := (mem_side G hy).mp hx
  exact (mem_side G (G.lt _ _ ha hy)).mpr ⟨h, hh, ph, G.assoc _ _ _ ha hy hh⟩
variable {l : List Pm}
theorem nb_eq (G : Grp n m) (H : Part n m p) (S : Sds n m p l) {x y : Nat} (hx : x < n) (hy : y < n) : nb l x = nb l y ↔ side n m p x = side n m p y := by
  obtain ⟨a1, a2⟩ := S.num x hx
  obtain ⟨b1, b2⟩ := S.num y hy
  constructor
  · intro e
    rw [← a2, ← b2, e]
  · intro e
    exact S.inj _ _ a1 b1 (by rw [a2, b2, e])
/-- a deed on q places -/
structure Deed (n : Nat) (m : Nat → Nat → Nat) (q : Nat) (ps : List Pm) : Prop where
  len : ps.length = n
  size : ∀ a, a < n → (ps.getD a []).length = q
  lt : ∀ a, a < n → ∀ k ∈ ps.getD a [], k < q
  one : ps.getD 0 [] = List.range q
  mul : ∀ a b, a < n → b < n → ps.getD (m a b) [] = aft (ps.getD a []) (ps.getD b [])
theorem aft_get {p q : Pm} {i : Nat} (h : i < q.length) : (aft p q).getD i 0 = p.getD (q.getD i 0) 0 := by
  unfold aft
  rw [gd (l := q.map _) (by rw [List.length_map]; exact h), List.getElem_map, gd (l := q) h]
theorem Deed.perm {q : Nat} {ps : List Pm} (D : Deed n m q ps) (G : Grp n m) {a : Nat} (ha : a < n) : (ps.getD a []).Perm (List.range q) := by
  obtain ⟨b, hb, _, e2⟩ := G.back a ha
  have e := D.mul b a hb ha
  rw [e2, D.one] at e
  have sz := D.size a ha
  refine nodup_permN ?_ (fun x hx => List.mem_range.mpr (D.lt a ha x hx)) (by rw [List.length_range, sz]; exact Nat.le_refl _)
  rw [List.Nodup, List.pairwise_iff_getElem]
  intro i j hi hj hij e3
  have h1 : (List.range q).getD i 0 = (ps.getD b []).getD ((ps.getD a []).getD i 0) 0 := by rw [e]; exact aft_get hi
  have h2 : (List.range q).getD j 0 = (ps.getD b []).getD ((ps.getD a []).getD j 0) 0 := by rw [e]; exact aft_get hj
  rw [gd hi] at h1
  rw [gd hj] at h2
  rw [gd (l := List.range q) (by rw [List.length_range]; omega), List.getElem_range] at h1 h2
  rw [e3] at h1
  omega
theorem Deed.permP {q : Nat} {ps : List Pm} (D : Deed n m q ps) (G : Grp n m) (h1 : 1 ≤ q) (h2 : q ≤ 24) {a : Nat} (ha : a < n) : permP (ps.getD a []) := by
  have sz := D.size a ha
  exact ⟨by omega, by omega, by rw [sz]; exact D.perm G ha⟩
theorem get_mem {ps : List Pm} {x : Pm} (h : x ∈ ps) : ∃ a, a < ps.length ∧ ps.getD a [] = x := by
  obtain ⟨a, ha, rfl⟩ := List.getElem_of_mem h
  exact ⟨a, ha, gd ha⟩
theorem Deed.ok {q : Nat} {ps : List Pm} (D : Deed n m q ps) (G : Grp n m) (h1 : 1 ≤ q) (h2 : q ≤ 24) : deedB n m (.tuple (ps.map tupN)) = true := by
  have n1 := G.pos
  have all : ((ps.map tupN).all isPermB) = true := by
    rw [List.all_eq_true]
    intro x hx
    obtain ⟨p, hp, rfl⟩ := List.mem_map.mp hx
    obtain ⟨a, ha, rfl⟩ := get_mem hp
    exact isPermB_nat (D.permP G h1 h2 (by rw [← D.len]; exact ha))
  have tm : (ps.map tupN).map toPm = ps := by
    rw [List.map_map]
    exact (List.map_congr_left fun x _ => toPm_tupN x).trans (List.map_id _)
  simp only [deedB, all, tm, List.length_map, D.len, decide_true, Bool.true_and, rowsB, Bool.and_eq_true, List.all_eq_true, beq_iff_eq]
  refine ⟨⟨fun p hp => ?_, ?_⟩, fun a ha b hb => D.mul a b (List.mem_range.mp ha) (List.mem_range.mp hb)⟩
  · obtain ⟨a, ha, rfl⟩ := get_mem hp
    rw [D.size a (by rw [← D.len]; exact ha), D.size 0 n1]
  · rw [D.one, List.length_range]
theorem range_get {α : Type} {n a : Nat} (g : Nat → α) (d : α) (ha : a < n) : ((List.range n).map g).getD a d = g a := by
  rw [gd (by rw [List.length_map, List.length_range]; exact ha), List.getElem_map, List.getElem_range]
end
end MP
end B10

section B11
set_option Elab.async false
set_option linter.all false
set_option maxRecDepth 100000
set_option autoImplicit false
set_option maxHeartbeats 2000000

/-! B11: the laws' own deeds. -/
namespace MP
open PySem
local macro_rules
  | `(tactic| array_get_dec) => `(tactic| simp (disch := first | assumption | omega | (simp only [List.length_replicate, List.length_map, List.length_range, List.length_append, List.length_cons, List.length_nil, List.length_set, List.length_take, List.length_drop, List.length_dropLast] <;> omega) | fail) only [WB, tgsLen, exists_eq_left', exists_eq_left, exists_eq', Option.some.injEq, Option.map_some, Option.bind_some, List.getElem?_cons_zero, List.getElem?_cons_succ, List.set_cons_zero, List.set_cons_succ, List.any_cons, List.any_nil, List.map_cons, List.map_nil, List.cons_append, List.nil_append, List.length_cons, List.length_nil, PyData.int.injEq, PyData.bool.injEq, PyData.str.injEq, PyData.list.injEq, PyData.tuple.injEq, D.dat.injEq, D.ref.injEq, Cell.lst.injEq, List.cons.injEq, Bool.not_true, Bool.not_false, Bool.or_false, Bool.or_true, Bool.false_or, Bool.true_or, Bool.and_true, Bool.true_and, Bool.and_false, Bool.false_and, decide_true, decide_false, decide_eq_true_eq, decide_eq_false_iff_not, true_and, and_true, false_and, and_false, Bool.false_eq_true, Bool.true_eq_false, reduceCtorEq, if_true, if_false, ite_true, ite_false, true_implies, false_implies, implies_true, forall_const, forall_eq', forall_eq, id, Bool.not_eq_true', Bool.not_eq_false', wipeE, Nat.zero_le, List.length_set, Nat.reduceAdd, Nat.reduceSub, List.replicate_succ, List.replicate_zero, Int.reduceToNat, Int.toNat_one, Int.toNat_zero, List.length_map, List.length_range, Int.toNat_natCast, TrnK, and_assoc, Option.getD_none, Option.getD_some, Int.sub_zero, cut_hi, cut_lo, cut_last, List.drop_succ_cons, List.drop_zero])
local macro_rules
  | `(tactic| sizeOf_list_dec) => `(tactic| ((try array_get_dec); repeat' (first
    | (rw [rst_cons]; array_get_dec)
    | (rw [wp_blk]; array_get_dec)
    | (rw [rst_frz]; array_get_dec)
    | (rw [wp_frz]; array_get_dec)
    | (refine And.intro (fun _ => ?_) (fun _ => ?_) <;> try array_get_dec)
    | fail)))

section
variable {Xp : Exc → Store → Prop} {P : List Def} {w k f : Nat} {st : Store} {Q : D → Store → Prop} {n : Nat} {m : Nat → Nat → Nat} {p : Nat → Bool}
/-! ### a deed, drawn -/
end
/-! ### a block in two parts -/
section
variable {Xp : Exc → Store → Prop} {P : List Def} {w k f : Nat} {st : Store} {Q : D → Store → Prop} {n : Nat} {m : Nat → Nat → Nat} {p : Nat → Bool}
theorem all_part (n : Nat) (m : Nat → Nat → Nat) : Part n m fun _ => true := ⟨rfl, fun _ _ _ _ _ _ => rfl⟩
end
end MP
end B11

section B12
set_option Elab.async false
set_option linter.all false
set_option maxRecDepth 100000
set_option autoImplicit false
set_option maxHeartbeats 2000000

/-! B12: deeds made of others: on things, turning, pairs, twos. -/
namespace MP
open PySem
local macro_rules
  | `(tactic| array_get_dec) => `(tactic| simp (disch := first | assumption | omega | (simp only [List.length_replicate, List.length_map, List.length_range, List.length_append, List.length_cons, List.length_nil, List.length_set, List.length_take, List.length_drop, List.length_dropLast] <;> omega) | fail) only [WB, tgsLen, exists_eq_left', exists_eq_left, exists_eq', Option.some.injEq, Option.map_some, Option.bind_some, List.getElem?_cons_zero, List.getElem?_cons_succ, List.set_cons_zero, List.set_cons_succ, List.any_cons, List.any_nil, List.map_cons, List.map_nil, List.cons_append, List.nil_append, List.length_cons, List.length_nil, PyData.int.injEq, PyData.bool.injEq, PyData.str.injEq, PyData.list.injEq, PyData.tuple.injEq, D.dat.injEq, D.ref.injEq, Cell.lst.injEq, List.cons.injEq, Bool.not_true, Bool.not_false, Bool.or_false, Bool.or_true, Bool.false_or, Bool.true_or, Bool.and_true, Bool.true_and, Bool.and_false, Bool.false_and, decide_true, decide_false, decide_eq_true_eq, decide_eq_false_iff_not, true_and, and_true, false_and, and_false, Bool.false_eq_true, Bool.true_eq_false, reduceCtorEq, if_true, if_false, ite_true, ite_false, true_implies, false_implies, implies_true, forall_const, forall_eq', forall_eq, id, Bool.not_eq_true', Bool.not_eq_false', wipeE, Nat.zero_le, List.length_set, Nat.reduceAdd, Nat.reduceSub, List.replicate_succ, List.replicate_zero, Int.reduceToNat, Int.toNat_one, Int.toNat_zero, List.length_map, List.length_range, Int.toNat_natCast, TrnK, and_assoc, Option.getD_none, Option.getD_some, Int.sub_zero, cut_hi, cut_lo, cut_last, List.drop_succ_cons, List.drop_zero])
local macro_rules
  | `(tactic| sizeOf_list_dec) => `(tactic| ((try array_get_dec); repeat' (first
    | (rw [rst_cons]; array_get_dec)
    | (rw [wp_blk]; array_get_dec)
    | (rw [rst_frz]; array_get_dec)
    | (rw [wp_frz]; array_get_dec)
    | (refine And.intro (fun _ => ?_) (fun _ => ?_) <;> try array_get_dec)
    | fail)))

section
variable {n : Nat} {m : Nat → Nat → Nat}
theorem Deed.get_mul {q : Nat} {ps : List Pm} (D : Deed n m q ps) {a b i : Nat} (ha : a < n) (hb : b < n) (hi : i < q) : (ps.getD (m a b) []).getD i 0 = (ps.getD a []).getD ((ps.getD b []).getD i 0) 0 := by
  have := D.size b hb
  rw [D.mul a b ha hb, aft_get (by omega)]
theorem Deed.get_one {q : Nat} {ps : List Pm} (D : Deed n m q ps) {i : Nat} (hi : i < q) : (ps.getD 0 []).getD i 0 = i := by
  rw [D.one, gd (l := List.range q) (by rw [List.length_range]; exact hi), List.getElem_range]
theorem Deed.inj {q : Nat} {ps : List Pm} (D : Deed n m q ps) (G : Grp n m) {a i j : Nat} (ha : a < n) (hi : i < q) (hj : j < q) (e : (ps.getD a []).getD i 0 = (ps.getD a []).getD j 0) : i = j := by
  obtain ⟨b, hb, _, e2⟩ := G.back a ha
  have h1 := D.get_mul hb ha hi
  have h2 := D.get_mul hb ha hj
  rw [e, ← h2, e2, D.get_one hi, D.get_one hj] at h1
  exact h1
end
end MP
end B12

section B13
set_option Elab.async false
set_option linter.all false
set_option maxRecDepth 100000
set_option autoImplicit false
set_option maxHeartbeats 2000000

/-! B13: a part as a group by itself, by itself. -/
namespace MP
open PySem
local macro_rules
  | `(tactic| array_get_dec) => `(tactic| simp (disch := first | assumption | omega | (simp only [List.length_replicate, List.length_map, List.length_range, List.length_append, List.length_cons, List.length_nil, List.length_set, List.length_take, List.length_drop, List.length_dropLast] <;> omega) | fail) only [WB, tgsLen, exists_eq_left', exists_eq_left, exists_eq', Option.some.injEq, Option.map_some, Option.bind_some, List.getElem?_cons_zero, List.getElem?_cons_succ, List.set_cons_zero, List.set_cons_succ, List.any_cons, List.any_nil, List.map_cons, List.map_nil, List.cons_append, List.nil_append, List.length_cons, List.length_nil, PyData.int.injEq, PyData.bool.injEq, PyData.str.injEq, PyData.list.injEq, PyData.tuple.injEq, D.dat.injEq, D.ref.injEq, Cell.lst.injEq, List.cons.injEq, Bool.not_true, Bool.not_false, Bool.or_false, Bool.or_true, Bool.false_or, Bool.true_or, Bool.and_true, Bool.true_and, Bool.and_false, Bool.false_and, decide_true, decide_false, decide_eq_true_eq, decide_eq_false_iff_not, true_and, and_true, false_and, and_false, Bool.false_eq_true, Bool.true_eq_false, reduceCtorEq, if_true, if_false, ite_true, ite_false, true_implies, false_implies, implies_true, forall_const, forall_eq', forall_eq, id, Bool.not_eq_true', Bool.not_eq_false', wipeE, Nat.zero_le, List.length_set, Nat.reduceAdd, Nat.reduceSub, List.replicate_succ, List.replicate_zero, Int.reduceToNat, Int.toNat_one, Int.toNat_zero, List.length_map, List.length_range, Int.toNat_natCast, TrnK, and_assoc, Option.getD_none, Option.getD_some, Int.sub_zero, cut_hi, cut_lo, cut_last, List.drop_succ_cons, List.drop_zero])
local macro_rules
  | `(tactic| sizeOf_list_dec) => `(tactic| ((try array_get_dec); repeat' (first
    | (rw [rst_cons]; array_get_dec)
    | (rw [wp_blk]; array_get_dec)
    | (rw [rst_frz]; array_get_dec)
    | (rw [wp_frz]; array_get_dec)
    | (refine And.intro (fun _ => ?_) (fun _ => ?_) <;> try array_get_dec)
    | fail)))

section
variable {n : Nat} {m : Nat → Nat → Nat} {p : Nat → Bool}
end
end MP
end B13

section C1
set_option Elab.async false
set_option linter.all false
set_option maxRecDepth 100000
set_option autoImplicit false
set_option maxHeartbeats 2000000

/-! C1: classes of anything, by their least members; the classes of a group. -/
namespace MP
open PySem
local macro_rules
  | `(tactic| array_get_dec) => `(tactic| simp (disch := first | assumption | omega | (simp only [List.length_replicate, List.length_map, List.length_range, List.length_append, List.length_cons, List.length_nil, List.length_set, List.length_take, List.length_drop, List.length_dropLast] <;> omega) | fail) only [WB, tgsLen, exists_eq_left', exists_eq_left, exists_eq', Option.some.injEq, Option.map_some, Option.bind_some, List.getElem?_cons_zero, List.getElem?_cons_succ, List.set_cons_zero, List.set_cons_succ, List.any_cons, List.any_nil, List.map_cons, List.map_nil, List.cons_append, List.nil_append, List.length_cons, List.length_nil, PyData.int.injEq, PyData.bool.injEq, PyData.str.injEq, PyData.list.injEq, PyData.tuple.injEq, D.dat.injEq, D.ref.injEq, Cell.lst.injEq, List.cons.injEq, Bool.not_true, Bool.not_false, Bool.or_false, Bool.or_true, Bool.false_or, Bool.true_or, Bool.and_true, Bool.true_and, Bool.and_false, Bool.false_and, decide_true, decide_false, decide_eq_true_eq, decide_eq_false_iff_not, true_and, and_true, false_and, and_false, Bool.false_eq_true, Bool.true_eq_false, reduceCtorEq, if_true, if_false, ite_true, ite_false, true_implies, false_implies, implies_true, forall_const, forall_eq', forall_eq, id, Bool.not_eq_true', Bool.not_eq_false', wipeE, Nat.zero_le, List.length_set, Nat.reduceAdd, Nat.reduceSub, List.replicate_succ, List.replicate_zero, Int.reduceToNat, Int.toNat_one, Int.toNat_zero, List.length_map, List.length_range, Int.toNat_natCast, TrnK, and_assoc, Option.getD_none, Option.getD_some, Int.sub_zero, cut_hi, cut_lo, cut_last, List.drop_succ_cons, List.drop_zero])
local macro_rules
  | `(tactic| sizeOf_list_dec) => `(tactic| ((try array_get_dec); repeat' (first
    | (rw [rst_cons]; array_get_dec)
    | (rw [wp_blk]; array_get_dec)
    | (rw [rst_frz]; array_get_dec)
    | (rw [wp_frz]; array_get_dec)
    | (refine And.intro (fun _ => ?_) (fun _ => ?_) <;> try array_get_dec)
    | fail)))

theorem flt_range : ∀ (n a : Nat), a < n → (List.range n).filter (fun j => j == a) = [a]
  | 0, a, h => absurd h (by omega)
  | n + 1, a, h => by
    rw [List.range_succ, List.filter_append]
    by_cases e : a = n
    · subst e
      rw [List.filter_eq_nil_iff.mpr fun x hx => by (have := List.mem_range.mp hx; rw [beq_iff_eq]; omega)]
      simp
    · rw [flt_range n a (by omega)]
      have : (n == a) = false := beq_eq_false_iff_ne.mpr (by omega)
      simp [this]
/-- classes by their members, rising -/
structure Eqv (n : Nat) (f : Nat → Pm) : Prop where
  self : ∀ x, x < n → x ∈ f x
  lt : ∀ x, x < n → ∀ y ∈ f x, y < n
  eq : ∀ x, x < n → ∀ y ∈ f x, f y = f x
  up : ∀ x, x < n → (f x).Pairwise (· < ·)
/-- each class once, by the least members -/
def el (f : Nat → Pm) : Nat → List Pm
  | 0 => []
  | j + 1 => if memP (el f j) (f j) then el f j else el f j ++ [f j]
structure ElOk (n : Nat) (f : Nat → Pm) (j : Nat) : Prop where
  of : ∀ r ∈ el f j, ∃ b, b < j ∧ r = f b ∧ r.head? = some b
  all : ∀ b, b < j → f b ∈ el f j
  up : (el f j).Pairwise fun r s => ∃ a b, r.head? = some a ∧ s.head? = some b ∧ a < b
  nd : (el f j).flatten.Nodup
section
variable {n : Nat} {f : Nat → Pm}
theorem ElOk.lt (E : Eqv n f) {j : Nat} (S : ElOk n f j) (hj : j ≤ n) {x : Nat} (h : x ∈ (el f j).flatten) : x < n := by
  obtain ⟨r, hr, hx⟩ := List.mem_flatten.mp h
  obtain ⟨b, hb, rfl, _⟩ := S.of r hr
  exact E.lt b (by omega) x hx
/-- what is known of the classes -/
structure Els (n : Nat) (f : Nat → Pm) (l : List Pm) : Prop where
  le : l.length ≤ n
  at_ : ∀ i, i < l.length → (l.getD i []).getD 0 0 < n ∧ l.getD i [] = f ((l.getD i []).getD 0 0) ∧ (l.getD i []).getD 0 0 ∈ l.getD i []
  inj : ∀ i j, i < l.length → j < l.length → l.getD i [] = l.getD j [] → i = j
  num : ∀ x, x < n → nb l x < l.length ∧ l.getD (nb l x) [] = f x
  zero : 0 < n → 0 < l.length ∧ l.getD 0 [] = f 0 ∧ (l.getD 0 []).getD 0 0 = 0
  nd : l.flatten.Nodup
  fl : ∀ x, x ∈ l.flatten ↔ x < n
  ne : ∀ r ∈ l, r ≠ [] ∧ r.getD 0 0 < n ∧ r = f (r.getD 0 0)
  up : l.Pairwise fun r s => ∃ a b, r.head? = some a ∧ s.head? = some b ∧ a < b
variable {l : List Pm}
theorem Els.nb_eq (S : Els n f l) {x y : Nat} (hx : x < n) (hy : y < n) : nb l x = nb l y ↔ f x = f y := by
  obtain ⟨a1, a2⟩ := S.num x hx
  obtain ⟨b1, b2⟩ := S.num y hy
  constructor
  · intro e
    rw [← a2, ← b2, e]
  · intro e
    exact S.inj _ _ a1 b1 (by rw [a2, b2, e])
end
theorem ex_natD {n : Nat} {Q : Int → Prop} : (∃ i, natD n = PyData.int i ∧ Q i) ↔ Q (n : Int) := by
  constructor
  · rintro ⟨i, e, h⟩
    have : (n : Int) = i := by
      have e : PyData.int (n : Int) = .int i := e
      exact PyData.int.inj e
    rw [this]
    exact h
  · intro h
    exact ⟨_, rfl, h⟩
theorem o_mulN {a b : Nat} (ha : a < 2 ^ 100) (hb : b < 2 ^ 100) : bopV .mul (natD a) (natD b) = some (.dat (natD (a * b))) := by
  unfold natD
  rw [o_mul (by omega) (by omega) (by omega) (by omega), Int.natCast_mul]
theorem o_fdivN {a b : Nat} (h1 : 0 < b) (h4 : b < 2 ^ 100) : bopV .fdiv (natD a) (natD b) = some (.dat (natD (a / b))) := by
  unfold natD
  rw [o_fdiv (by omega) (by omega), Int.natCast_ediv]
theorem o_addN {a b : Nat} : bopV .add (natD a) (natD b) = some (.dat (natD (a + b))) := by
  unfold natD
  rw [o_addI, Int.natCast_add]
theorem o_addN1 {a : Nat} : bopV .add (natD a) (.int 1) = some (.dat (natD (a + 1))) := o_addI
theorem o_add1N {a : Nat} : bopV .add (.int 1) (natD a) = some (.dat (natD (1 + a))) := by
  unfold natD
  rw [o_addI, Int.natCast_add]
  rfl
def NB := And.intro @natD_is <| And.intro @ex_natD <| And.intro @o_mulN <| And.intro @o_fdivN <| And.intro @o_addN <| And.intro @o_addN1 @o_add1N
/-! ### turned things -/
section
variable {n : Nat} {m : Nat → Nat → Nat}
/-- the class of a thing -/
def cls (n : Nat) (m : Nat → Nat → Nat) (x : Nat) : Pm := pL n ((List.range n).map (turn n m x)).contains
/-- the classes of a group -/
def cs (n : Nat) (m : Nat → Nat → Nat) : List Pm := el (cls n m) n
end
/-! ### rows of marks -/
/-! ### sorted(set(..)) -/
/-- the defs by which one thing is turned -/
structure TxB (P : List Def) (ib it : Nat) : Prop where
  back : ∃ d, P[ib]? = some d ∧ Like d d_law_back
  turned : ∃ d, P[it]? = some d ∧ Like d (d_law_turned ib)
theorem TxT.b {P : List Def} {ib it ia : Nat} (T : TxT P ib it ia) : TxB P ib it := ⟨T.back, T.turned⟩
section
variable {Xp : Exc → Store → Prop} {P : List Def} {w k f : Nat} {st : Store} {Q : D → Store → Prop} {n : Nat} {m : Nat → Nat → Nat} {d : Def}
theorem TxB.turned_w {ib it : Nat} (T : TxB P ib it) (hk : 1 < k) (G : Grp n m) {x t : Nat} (hx : x < n) (ht : t < n) : wp Xp (callF P w k it [.dat (gD n m), .dat (natD x), .dat (natD t)]) st Q ↔ Q (.dat (natD (turn n m x t))) st := by
  obtain ⟨d1, h1, l1⟩ := T.back
  obtain ⟨d2, h2, l2⟩ := T.turned
  exact MP.turned_w h2 l2 h1 l1 hk G hx ht
end
end MP
end C1

section C2
set_option Elab.async false
set_option linter.all false
set_option maxRecDepth 100000
set_option autoImplicit false
set_option maxHeartbeats 2000000

/-! C2: a part as a group by itself, walked; groups asked. -/
namespace MP
open PySem
local macro_rules
  | `(tactic| array_get_dec) => `(tactic| simp (disch := first | assumption | omega | (simp only [List.length_replicate, List.length_map, List.length_range, List.length_append, List.length_cons, List.length_nil, List.length_set, List.length_take, List.length_drop, List.length_dropLast] <;> omega) | fail) only [WB, tgsLen, exists_eq_left', exists_eq_left, exists_eq', Option.some.injEq, Option.map_some, Option.bind_some, List.getElem?_cons_zero, List.getElem?_cons_succ, List.set_cons_zero, List.set_cons_succ, List.any_cons, List.any_nil, List.map_cons, List.map_nil, List.cons_append, List.nil_append, List.length_cons, List.length_nil, PyData.int.injEq, PyData.bool.injEq, PyData.str.injEq, PyData.list.injEq, PyData.tuple.injEq, D.dat.injEq, D.ref.injEq, Cell.lst.injEq, List.cons.injEq, Bool.not_true, Bool.not_false, Bool.or_false, Bool.or_true, Bool.false_or, Bool.true_or, Bool.and_true, Bool.true_and, Bool.and_false, Bool.false_and, decide_true, decide_false, decide_eq_true_eq, decide_eq_false_iff_not, true_and, and_true, false_and, and_false, Bool.false_eq_true, Bool.true_eq_false, reduceCtorEq, if_true, if_false, ite_true, ite_false, true_implies, false_implies, implies_true, forall_const, forall_eq', forall_eq, id, Bool.not_eq_true', Bool.not_eq_false', wipeE, Nat.zero_le, List.length_set, Nat.reduceAdd, Nat.reduceSub, List.replicate_succ, List.replicate_zero, Int.reduceToNat, Int.toNat_one, Int.toNat_zero, List.length_map, List.length_range, Int.toNat_natCast, TrnK, and_assoc, Option.getD_none, Option.getD_some, Int.sub_zero, cut_hi, cut_lo, cut_last, List.drop_succ_cons, List.drop_zero])
local macro_rules
  | `(tactic| sizeOf_list_dec) => `(tactic| ((try array_get_dec); repeat' (first
    | (rw [rst_cons]; array_get_dec)
    | (rw [wp_blk]; array_get_dec)
    | (rw [rst_frz]; array_get_dec)
    | (rw [wp_frz]; array_get_dec)
    | (refine And.intro (fun _ => ?_) (fun _ => ?_) <;> try array_get_dec)
    | fail)))

def d_is_shaped (i_is_whole : Nat) : Def := ⟨"is_shaped", ["thing"], ["thing", "row", "one"],
  .cons (.ife (.or (.not (.isi (.var 0) [.tuple] false)) (.not (.chain .le .le (.con (.int 1)) (.bi .len (.cons (.var 0) .nil)) (.glob "MOST_THINGS" (.int 60))))) (.cons (.ret (.con (.bool false))) .nil) (.nil))
    (.cons (.for_ (.name 1) (.val (.var 0)) (.cons (.ife (.or (.not (.isi (.var 1) [.tuple] false)) (.cmp .ne (.bi .len (.cons (.var 1) .nil)) (.bi .len (.cons (.var 0) .nil)))) (.cons (.ret (.con (.bool false))) .nil) (.nil)) (.cons (.ife (.not (.bi .all (.cons (.comp (.and (.call i_is_whole (.cons (.var 2) .nil)) (.chain .le .lt (.con (.int 0)) (.var 2) (.bi .len (.cons (.var 0) .nil)))) (.name 2) (.val (.var 1)) .none [("one", 2)]) .nil))) (.cons (.ret (.con (.bool false))) .nil) (.nil)) .nil)))
    (.cons (.ret (.con (.bool true))) .nil))⟩

def d_has_back : Def := ⟨"has_back", ["group", "a"], ["group", "a", "b"],
  .cons (.ret (.bi .any (.cons (.comp (.and (.cmp .eq (.idx (.idx (.var 0) (.var 1)) (.var 2)) (.con (.int 0))) (.cmp .eq (.idx (.idx (.var 0) (.var 2)) (.var 1)) (.con (.int 0)))) (.name 2) (.rng1 (.bi .len (.cons (.var 0) .nil))) .none [("b", 2)]) .nil))) .nil⟩

def d_is_threefold : Def := ⟨"is_threefold", ["group", "a"], ["group", "a", "b", "both", "c"],
  .cons (.for_ (.name 2) (.rng1 (.bi .len (.cons (.var 0) .nil))) (.cons (.asg (.name 3) (.idx (.idx (.var 0) (.var 1)) (.var 2))) (.cons (.for_ (.name 4) (.rng1 (.bi .len (.cons (.var 0) .nil))) (.cons (.ife (.cmp .ne (.idx (.idx (.var 0) (.var 3)) (.var 4)) (.idx (.idx (.var 0) (.var 1)) (.idx (.idx (.var 0) (.var 2)) (.var 4)))) (.cons (.ret (.con (.bool false))) .nil) (.nil)) .nil)) .nil)))
    (.cons (.ret (.con (.bool true))) .nil)⟩

def d_ask_group (i_is_threefold : Nat) (i_has_back : Nat) (i_is_shaped : Nat) : Def := ⟨"ask_group", ["thing"], ["thing", "a"],
  .cons (.ife (.not (.call i_is_shaped (.cons (.var 0) .nil))) (.cons (.bad) .nil) (.nil))
    (.cons (.for_ (.name 1) (.rng1 (.bi .len (.cons (.var 0) .nil))) (.cons (.ife (.or (.cmp .ne (.idx (.idx (.var 0) (.con (.int 0))) (.var 1)) (.var 1)) (.cmp .ne (.idx (.idx (.var 0) (.var 1)) (.con (.int 0))) (.var 1))) (.cons (.bad) .nil) (.nil)) .nil))
    (.cons (.for_ (.name 1) (.rng1 (.bi .len (.cons (.var 0) .nil))) (.cons (.ife (.not (.call i_has_back (.cons (.var 0) (.cons (.var 1) .nil)))) (.cons (.bad) .nil) (.nil)) .nil))
    (.cons (.for_ (.name 1) (.rng1 (.bi .len (.cons (.var 0) .nil))) (.cons (.ife (.not (.call i_is_threefold (.cons (.var 0) (.cons (.var 1) .nil)))) (.cons (.bad) .nil) (.nil)) .nil))
    (.cons (.ret (.con (.bool true))) .nil))))⟩

section
variable {n : Nat} {m : Nat → Nat → Nat} {p : Nat → Bool}
variable {Xp : Exc → Store → Prop} {P : List Def} {w k f : Nat} {st : Store} {Q : D → Store → Prop} {d : Def}
theorem o_eqN (a b : Nat) : copV .eq (natD a) (natD b) = some (a == b) := by
  show copV .eq (.int a) (.int b) = _
  rw [o_eqI, Option.some.injEq, Bool.eq_iff_iff, decide_eq_true_eq, beq_iff_eq]
  omega
theorem o_neNat (a b : Nat) : copV .ne (natD a) (natD b) = some (!(a == b)) := by
  show copV .ne (.int a) (.int b) = _
  rw [o_neI, Option.some.injEq]
  congr 1
  rw [Bool.eq_iff_iff, decide_eq_true_eq, beq_iff_eq]
  omega
theorem z0 : PyData.int 0 = natD 0 := rfl
theorem rowD_len {i : Nat} : biV .len [rowD n m i] = some (.dat (.int n)) := by
  unfold rowD
  rw [o_lenT, List.length_map, List.length_range]
theorem has_back_w (hf : P[f]? = some d_has_back) (hk : 0 < k) (G : Grp n m) {a : Nat} (ha : a < n) : wp Xp (callF P w k f [.dat (gD n m), .dat (natD a)]) st Q ↔ Q (.dat (.bool true)) st := runs_iff fun R hR => by
  have n60 := G.le
  refine wp_call' hf rfl (by omega) ?_; simp only [d_has_back, List.map_cons, List.map_nil, List.length_cons, List.length_nil]; rw [wp_blk]
  (repeat' (first | simp? only [GB] | rw [rst_cons] | rw [wp_blk] | rw [rst_frz] | rw [wp_frz] | (refine And.intro (fun _ => ?_) (fun _ => ?_)) | fail))
  refine lc_map (e := fun k : Nat => .int k) (l := List.range n) (g := fun b => .bool (m a b == 0 && m b a == 0)) (by first | omega | (simp only [List.length_range, List.length_map, List.length_replicate, List.length_append, List.length_cons, List.length_nil]; omega)) (fun b hb R h => ?_) ?_
  · have hb := List.mem_range.mp hb
    cases h1 : m a b == 0
    · rw [h1] at h
      (repeat' (first | simp? only [GB, NB, z0, o_eqN, h1] | rw [rst_cons] | rw [wp_blk] | rw [rst_frz] | rw [wp_frz] | (refine And.intro (fun _ => ?_) (fun _ => ?_)) | fail))
      exact h
    · rw [h1] at h
      (repeat' (first | simp? only [GB, NB, z0, o_eqN, h1] | rw [rst_cons] | rw [wp_blk] | rw [rst_frz] | rw [wp_frz] | (refine And.intro (fun _ => ?_) (fun _ => ?_)) | fail))
      exact h
  · have e : (List.range n).any (fun b => m a b == 0 && m b a == 0) = true := by
      obtain ⟨j, hj, e1, e2⟩ := G.back a ha
      exact List.any_eq_true.mpr ⟨j, List.mem_range.mpr hj, by rw [e1, e2]; rfl⟩
    (repeat' (first | simp? only [e] | rw [rst_cons] | rw [wp_blk] | rw [rst_frz] | rw [wp_frz] | (refine And.intro (fun _ => ?_) (fun _ => ?_)) | fail))
    exact hR
theorem is_threefold_w (hf : P[f]? = some d_is_threefold) (hk : 0 < k) (G : Grp n m) {a : Nat} (ha : a < n) : wp Xp (callF P w k f [.dat (gD n m), .dat (natD a)]) st Q ↔ Q (.dat (.bool true)) st := runs_iff fun R hR => by
  have n60 := G.le
  refine wp_call' hf rfl (by omega) ?_; simp only [d_is_threefold, List.map_cons, List.map_nil, List.length_cons, List.length_nil]; rw [wp_blk]
  (repeat' (first | simp? only [GB] | rw [rst_cons] | rw [wp_blk] | rw [rst_frz] | rw [wp_frz] | (refine And.intro (fun _ => ?_) (fun _ => ?_)) | fail))
  refine for_rng (fun j ρ s => ∃ x2 x3 x4 : Option D, ρ = [some (.dat (gD n m)), some (.dat (natD a)), x2, x3, x4] ∧ s = st) ⟨_, _, _, rfl, rfl⟩ ?_ ?_
  · rintro b ρ1 s1 hb ⟨x2, x3, x4, rfl, rfl⟩
    have hab := G.lt a b ha hb
    (repeat' (first | simp? only [GB, NB] | rw [rst_cons] | rw [wp_blk] | rw [rst_frz] | rw [wp_frz] | (refine And.intro (fun _ => ?_) (fun _ => ?_)) | fail))
    refine for_rng (fun j ρ s => ∃ x4 : Option D, ρ = [some (.dat (gD n m)), some (.dat (natD a)), some (.dat (natD b)), some (.dat (natD (m a b))), x4] ∧ s = s1) ⟨_, rfl, rfl⟩ ?_ ?_
    · rintro c ρ1 s1 hc ⟨x4, rfl, rfl⟩
      have hbc := G.lt b c hb hc
      have e := G.assoc a b c ha hb hc
      (repeat' (first | simp? only [GB, NB, o_neNat, e, beq_self_eq_true] | rw [rst_cons] | rw [wp_blk] | rw [rst_frz] | rw [wp_frz] | (refine And.intro (fun _ => ?_) (fun _ => ?_)) | fail))
      exact ⟨_, rfl, rfl⟩
    · rintro ρ1 s1 ⟨x4, rfl, rfl⟩
      sizeOf_list_dec
      exact ⟨_, _, _, rfl, rfl⟩
  · rintro ρ1 s1 ⟨x2, x3, x4, rfl, rfl⟩
    sizeOf_list_dec
    exact hR
theorem gD_rows (n : Nat) (m : Nat → Nat → Nat) : gD n m = .tuple ((List.range n).map (rowD n m)) := rfl
theorem is_shaped_w {iw : Nat} (hf : P[f]? = some (d_is_shaped iw)) (hi : P[iw]? = some d_is_whole) (hk : 1 < k) (G : Grp n m) : wp Xp (callF P w k f [.dat (gD n m)]) st Q ↔ Q (.dat (.bool true)) st := runs_iff fun R hR => by
  have n60 := G.le
  have n1 := G.pos
  have c1 : decide ((1 : Int) ≤ n) = true := decide_eq_true (by omega)
  have c2 : decide ((n : Int) ≤ 60) = true := decide_eq_true (by omega)
  have i1 : isiV .tuple (gD n m) = true := rfl
  refine wp_call' hf rfl (by omega) ?_; simp only [d_is_shaped, List.map_cons, List.map_nil, List.length_cons, List.length_nil]; rw [wp_blk]
  (repeat' (first | simp? only [GB, i1, c1, c2] | rw [rst_cons] | rw [wp_blk] | rw [rst_frz] | rw [wp_frz] | (refine And.intro (fun _ => ?_) (fun _ => ?_)) | fail))
  rw [gD_rows]
  sizeOf_list_dec
  refine for_by (e := rowD n m) (l := List.range n) (fun j ρ s => ∃ x1 x2 : Option D, ρ = [some (.dat (gD n m)), x1, x2] ∧ s = st) ⟨_, _, rfl, rfl⟩ ?_ ?_
  · rintro j x ρ1 s1 hx ⟨x1, x2, rfl, rfl⟩
    have hxn : x < n := List.mem_range.mp (List.mem_of_getElem? hx)
    have i2 : isiV .tuple (rowD n m x) = true := rfl
    have ne : ((n : Int) = n) = True := eq_true rfl
    (repeat' (first | simp? only [GB, rowD_len, i2, ne, show seqOf (.dat (rowD n m x)) = some ((List.range n).map fun j => natD (m x j)) from rfl] | rw [rst_cons] | rw [wp_blk] | rw [rst_frz] | rw [wp_frz] | (refine And.intro (fun _ => ?_) (fun _ => ?_)) | fail))
    show LcK _ _ _ _ _ _ ((List.range n).map fun j => natD (m x j)) _ _
    refine lc_map (e := fun j => natD (m x j)) (l := List.range n) (g := fun _ => .bool true) (by first | omega | (simp only [List.length_range, List.length_map, List.length_replicate, List.length_append, List.length_cons, List.length_nil]; omega)) (fun b hb R h => ?_) ?_
    · have hb := List.mem_range.mp hb
      have hl := G.lt x b hxn hb
      have c3 : decide ((0 : Int) ≤ (m x b : Nat)) = true := decide_eq_true (by omega)
      have c4 : decide (((m x b : Nat) : Int) < n) = true := decide_eq_true (by omega)
      (repeat' (first | simp? only [is_whole_w (k := k - 1) hi (by omega), show ∀ x, isWhole (natD x) = true from fun _ => rfl, GB] | rw [rst_cons] | rw [wp_blk] | rw [rst_frz] | rw [wp_frz] | (refine And.intro (fun _ => ?_) (fun _ => ?_)) | fail))
      unfold natD
      (repeat' (first | simp? only [GB, c3, c4] | rw [rst_cons] | rw [wp_blk] | rw [rst_frz] | rw [wp_frz] | (refine And.intro (fun _ => ?_) (fun _ => ?_)) | fail))
      exact h
    · have e : (List.range n).all (fun _ => true) = true := List.all_eq_true.mpr fun _ _ => rfl
      (repeat' (first | simp? only [e] | rw [rst_cons] | rw [wp_blk] | rw [rst_frz] | rw [wp_frz] | (refine And.intro (fun _ => ?_) (fun _ => ?_)) | fail))
      exact ⟨_, _, rfl, rfl⟩
  · rintro ρ1 s1 ⟨x1, x2, rfl, rfl⟩
    sizeOf_list_dec
    exact hR
theorem ask_group_w {it ib is iw : Nat} (hf : P[f]? = some (d_ask_group it ib is)) (h1 : P[it]? = some d_is_threefold) (h2 : P[ib]? = some d_has_back) (h3 : P[is]? = some (d_is_shaped iw)) (h4 : P[iw]? = some d_is_whole) (hk : 2 < k) (G : Grp n m) :
    wp Xp (callF P w k f [.dat (gD n m)]) st Q ↔ Q (.dat (.bool true)) st := runs_iff fun R hR => by
  have n60 := G.le
  have n1 := G.pos
  refine wp_call' hf rfl (by omega) ?_; simp only [d_ask_group, List.map_cons, List.map_nil, List.length_cons, List.length_nil]; rw [wp_blk]
  (repeat' (first | simp? only [is_shaped_w (k := k - 1) h3 h4 (by omega) G, GB] | rw [rst_cons] | rw [wp_blk] | rw [rst_frz] | rw [wp_frz] | (refine And.intro (fun _ => ?_) (fun _ => ?_)) | fail))
  refine for_rng (fun j ρ s => ∃ x1 : Option D, ρ = [some (.dat (gD n m)), x1] ∧ s = st) ⟨_, rfl, rfl⟩ ?_ ?_
  · rintro a ρ1 s1 ha ⟨x1, rfl, rfl⟩
    have e1 := G.one a ha
    have e2 := G.one' a ha
    (repeat' (first | simp? only [GB, NB, z0, o_neNat, e1, e2, beq_self_eq_true] | rw [rst_cons] | rw [wp_blk] | rw [rst_frz] | rw [wp_frz] | (refine And.intro (fun _ => ?_) (fun _ => ?_)) | fail))
    exact ⟨_, rfl, rfl⟩
  · rintro ρ1 s1 ⟨x1, rfl, rfl⟩
    (repeat' (first | simp? only [GB] | rw [rst_cons] | rw [wp_blk] | rw [rst_frz] | rw [wp_frz] | (refine And.intro (fun _ => ?_) (fun _ => ?_)) | fail))
    refine for_rng (fun j ρ s => ∃ x1 : Option D, ρ = [some (.dat (gD n m)), x1] ∧ s = s1) ⟨_, rfl, rfl⟩ ?_ ?_
    · rintro a ρ1 s1 ha ⟨x1, rfl, rfl⟩
      (repeat' (first | simp? only [GB, NB, has_back_w (k := k - 1) h2 (by omega) G ha] | rw [rst_cons] | rw [wp_blk] | rw [rst_frz] | rw [wp_frz] | (refine And.intro (fun _ => ?_) (fun _ => ?_)) | fail))
      exact ⟨_, rfl, rfl⟩
    · rintro ρ1 s1 ⟨x1, rfl, rfl⟩
      (repeat' (first | simp? only [GB] | rw [rst_cons] | rw [wp_blk] | rw [rst_frz] | rw [wp_frz] | (refine And.intro (fun _ => ?_) (fun _ => ?_)) | fail))
      refine for_rng (fun j ρ s => ∃ x1 : Option D, ρ = [some (.dat (gD n m)), x1] ∧ s = s1) ⟨_, rfl, rfl⟩ ?_ ?_
      · rintro a ρ1 s1 ha ⟨x1, rfl, rfl⟩
        (repeat' (first | simp? only [GB, NB, is_threefold_w (k := k - 1) h1 (by omega) G ha] | rw [rst_cons] | rw [wp_blk] | rw [rst_frz] | rw [wp_frz] | (refine And.intro (fun _ => ?_) (fun _ => ?_)) | fail))
        exact ⟨_, rfl, rfl⟩
      · rintro ρ1 s1 ⟨x1, rfl, rfl⟩
        sizeOf_list_dec
        exact hR
end
end MP
end C2

section C3
set_option Elab.async false
set_option linter.all false
set_option maxRecDepth 100000
set_option autoImplicit false
set_option maxHeartbeats 2000000

/-! C3: rounds of things. -/
namespace MP
open PySem
local macro_rules
  | `(tactic| array_get_dec) => `(tactic| simp (disch := first | assumption | omega | (simp only [List.length_replicate, List.length_map, List.length_range, List.length_append, List.length_cons, List.length_nil, List.length_set, List.length_take, List.length_drop, List.length_dropLast] <;> omega) | fail) only [WB, tgsLen, exists_eq_left', exists_eq_left, exists_eq', Option.some.injEq, Option.map_some, Option.bind_some, List.getElem?_cons_zero, List.getElem?_cons_succ, List.set_cons_zero, List.set_cons_succ, List.any_cons, List.any_nil, List.map_cons, List.map_nil, List.cons_append, List.nil_append, List.length_cons, List.length_nil, PyData.int.injEq, PyData.bool.injEq, PyData.str.injEq, PyData.list.injEq, PyData.tuple.injEq, D.dat.injEq, D.ref.injEq, Cell.lst.injEq, List.cons.injEq, Bool.not_true, Bool.not_false, Bool.or_false, Bool.or_true, Bool.false_or, Bool.true_or, Bool.and_true, Bool.true_and, Bool.and_false, Bool.false_and, decide_true, decide_false, decide_eq_true_eq, decide_eq_false_iff_not, true_and, and_true, false_and, and_false, Bool.false_eq_true, Bool.true_eq_false, reduceCtorEq, if_true, if_false, ite_true, ite_false, true_implies, false_implies, implies_true, forall_const, forall_eq', forall_eq, id, Bool.not_eq_true', Bool.not_eq_false', wipeE, Nat.zero_le, List.length_set, Nat.reduceAdd, Nat.reduceSub, List.replicate_succ, List.replicate_zero, Int.reduceToNat, Int.toNat_one, Int.toNat_zero, List.length_map, List.length_range, Int.toNat_natCast, TrnK, and_assoc, Option.getD_none, Option.getD_some, Int.sub_zero, cut_hi, cut_lo, cut_last, List.drop_succ_cons, List.drop_zero])
local macro_rules
  | `(tactic| sizeOf_list_dec) => `(tactic| ((try array_get_dec); repeat' (first
    | (rw [rst_cons]; array_get_dec)
    | (rw [wp_blk]; array_get_dec)
    | (rw [rst_frz]; array_get_dec)
    | (rw [wp_frz]; array_get_dec)
    | (refine And.intro (fun _ => ?_) (fun _ => ?_) <;> try array_get_dec)
    | fail)))

section
variable {n : Nat} {m : Nat → Nat → Nat}
end
section
variable {Xp : Exc → Store → Prop} {P : List Def} {w k f : Nat} {st : Store} {Q : D → Store → Prop} {n : Nat} {m : Nat → Nat → Nat} {d : Def}
end
end MP
end C3

section MW4
set_option Elab.async false
set_option linter.all false
set_option maxRecDepth 100000
set_option autoImplicit false
set_option maxHeartbeats 2000000

/-! MW4: trees of cells in proofs by hand. -/
namespace MP
open PySem
section
variable {Xp : Exc → Store → Prop} {C : Ctx} {ρ : Env} {st s : Store} {P : D → Store → Prop} {K : Out → Store → Prop}
end
end MP
end MW4

section MW5
set_option Elab.async false
set_option linter.all false
set_option maxRecDepth 100000
set_option autoImplicit false
set_option maxHeartbeats 2000000

/-! MW5: counts, leasts and exceptions in proofs by hand. -/
namespace MP
open PySem
section
variable {Xp : Exc → Store → Prop} {C : Ctx} {ρ : Env} {st s : Store} {P : D → Store → Prop} {K : Out → Store → Prop}
theorem w_exI {a : Ex} {cs : List Nat} : wp Xp (evE C (.exI a cs) ρ) st P ↔ wp Xp (evE C a ρ) st fun x s => wp Xp (refOf x) s fun i s => wp Xp (excAt i) s fun e s => P (.dat (.bool (cs.any (subC e.cls)))) s := by
  rw [evE]
  simp only [wp_bind, wp_pure]
theorem w_exV {a : Ex} : wp Xp (evE C (.exV a) ρ) st P ↔ wp Xp (evE C a ρ) st fun x s => wp Xp (refOf x) s fun i s => wp Xp (excAt i) s fun e s => P (.dat (.bool true)) s := by
  rw [evE]
  simp only [wp_bind, wp_pure]
theorem w_exN {a : Ex} {ng : Bool} : wp Xp (evE C (.exN ng a) ρ) st P ↔ wp Xp (evE C a ρ) st fun x s => wp Xp (isNV x) s fun b s => P (.dat (.bool (if ng then !b else b))) s := by
  rw [evE]
  simp only [wp_bind, wp_pure]
theorem w_isND {d : PyData} {R : Bool → Store → Prop} : wp Xp (isNV (.dat d)) st R ↔ R (isNone d) st := Iff.rfl
theorem w_isNR {i : Nat} {R : Bool → Store → Prop} : wp Xp (isNV (.ref i)) st R ↔ ∃ e, st[i]? = some (.exc e) ∧ R false st := by
  show wp Xp (fun st : Store => match st[i]? with | some (.exc _) => Res.ok false st | _ => .no) st R ↔ _
  cases h : st[i]? with
  | none =>
    simp only [wp, h]
    exact ⟨fun z => z.elim, fun ⟨x, e, _⟩ => by cases e⟩
  | some c =>
    cases c <;> simp only [wp, h]
    case exc x => exact ⟨fun h => ⟨_, rfl, h⟩, fun ⟨y, e, h⟩ => h⟩
    all_goals exact ⟨fun z => z.elim, fun ⟨x, e, _⟩ => by cases e⟩
theorem w_excAt {i : Nat} {R : Exc → Store → Prop} : wp Xp (excAt i) st R ↔ ∃ e, st[i]? = some (.exc e) ∧ R e st := by
  unfold excAt
  cases h : st[i]? with
  | none =>
    simp only [wp, h]
    exact ⟨fun z => z.elim, fun ⟨x, e, _⟩ => by cases e⟩
  | some c =>
    cases c <;> simp only [wp, h]
    case exc x => exact ⟨fun h => ⟨_, rfl, h⟩, fun ⟨y, e, h⟩ => by cases e; exact h⟩
    all_goals exact ⟨fun z => z.elim, fun ⟨x, e, _⟩ => by cases e⟩
theorem w_raiseX {α : Type} {x : Exc} {R : α → Store → Prop} : wp Xp (raiseX x : M α) st R ↔ Xp x st := Iff.rfl
theorem w_raise {c : Nat} {fs : List Str} {es : Exs} : wp Xp (evSt C (.raise c fs es) ρ) st K ↔ wp Xp (evEs C es ρ) st fun xs s => (fs.isEmpty || decide (xs.length = fs.length ∧ fs.length ≤ 100)) = true ∧ Xp ⟨c, fs.zip xs⟩ s := by
  rw [evSt]
  simp only [wp_bind, wp_guard, w_raiseX]
theorem w_tryA {t : Option Nat} {e : Ex} {c : Nat} {i : Option Nat} {suite : Sts} : wp Xp (evSt C (.tryA t e c i suite) ρ) st K ↔ wp (fun x s => subC x.cls c = true ∧ wp Xp (unE i (evSts C suite (bindO i (.ref s.length) ρ))) (s ++ [.exc x]) K) (evE C e ρ) st fun d s => K (.next (bindO t (keep d) ρ)) s := by
  rw [evSt]
  unfold wp
  dsimp only
  cases h : evE C e ρ st with
  | ok d s => exact Iff.rfl
  | no => exact Iff.rfl
  | exc x s =>
    dsimp only
    by_cases hc : subC x.cls c = true
    · rw [if_pos hc]
      exact ⟨fun h => ⟨hc, h⟩, fun h => h.2⟩
    · rw [if_neg hc]
      exact ⟨fun h => h.elim, fun h => hc h.1⟩
theorem w_unE {i : Option Nat} {m : M Out} : wp Xp (unE i m) st K ↔ wp NoX m st fun o s => K (unO i o) s := by
  unfold unE
  rw [wp_bind, w_noX]
  exact Iff.rfl
theorem unO_next {i : Nat} : unO (some i) (.next ρ) = .next (ρ.set i none) := rfl
theorem isNone_none : isNone .none = true := rfl
theorem bindO_some {i : Nat} {d : D} : bindO (some i) d ρ = ρ.set i (some d) := rfl
end
end MP
end MW5

section K23
set_option Elab.async false
set_option linter.all false
set_option maxRecDepth 100000
set_option autoImplicit false
set_option maxHeartbeats 2000000

/-! K23: the law of groups over parts. -/
namespace K23
open PySem MP
local macro_rules
  | `(tactic| array_get_dec) => `(tactic| simp (disch := first | assumption | omega | (simp only [List.length_replicate, List.length_map, List.length_range, List.length_append, List.length_cons, List.length_nil, List.length_set, List.length_take, List.length_drop, List.length_dropLast] <;> omega) | fail) only [WB, tgsLen, exists_eq_left', exists_eq_left, exists_eq', Option.some.injEq, Option.map_some, Option.bind_some, List.getElem?_cons_zero, List.getElem?_cons_succ, List.set_cons_zero, List.set_cons_succ, List.any_cons, List.any_nil, List.map_cons, List.map_nil, List.cons_append, List.nil_append, List.length_cons, List.length_nil, PyData.int.injEq, PyData.bool.injEq, PyData.str.injEq, PyData.list.injEq, PyData.tuple.injEq, D.dat.injEq, D.ref.injEq, Cell.lst.injEq, List.cons.injEq, Bool.not_true, Bool.not_false, Bool.or_false, Bool.or_true, Bool.false_or, Bool.true_or, Bool.and_true, Bool.true_and, Bool.and_false, Bool.false_and, decide_true, decide_false, decide_eq_true_eq, decide_eq_false_iff_not, true_and, and_true, false_and, and_false, Bool.false_eq_true, Bool.true_eq_false, reduceCtorEq, if_true, if_false, ite_true, ite_false, true_implies, false_implies, implies_true, forall_const, forall_eq', forall_eq, id, Bool.not_eq_true', Bool.not_eq_false', wipeE, Nat.zero_le, List.length_set, Nat.reduceAdd, Nat.reduceSub, List.replicate_succ, List.replicate_zero, Int.reduceToNat, Int.toNat_one, Int.toNat_zero, List.length_map, List.length_range, Int.toNat_natCast, TrnK, and_assoc, Option.getD_none, Option.getD_some, Int.sub_zero, cut_hi, cut_lo, cut_last, List.drop_succ_cons, List.drop_zero])
local macro_rules
  | `(tactic| sizeOf_list_dec) => `(tactic| ((try array_get_dec); repeat' (first
    | (rw [rst_cons]; array_get_dec)
    | (rw [wp_blk]; array_get_dec)
    | (rw [rst_frz]; array_get_dec)
    | (rw [wp_frz]; array_get_dec)
    | (refine And.intro (fun _ => ?_) (fun _ => ?_) <;> try array_get_dec)
    | fail)))

def d_back : Def := ⟨"back", ["group", "a"], ["group", "a"],
  .cons (.ret (.index (.idx (.var 0) (.var 1)) (.con (.int 0)))) .nil⟩

def d_turned_by (i_back : Nat) : Def := ⟨"turned_by", ["group", "thing", "t"], ["group", "thing", "t"],
  .cons (.ret (.idx (.idx (.var 0) (.idx (.idx (.var 0) (.var 2)) (.var 1))) (.call i_back (.cons (.var 0) (.cons (.var 2) .nil))))) .nil⟩

def d_part_by : Def := ⟨"part_by", ["group", "things"], ["group", "things", "met", "line", "here", "one", "later"],
  .cons (.asg (.name 2) (.cell (.dct (.cons (.con (.int 0)) (.cons (.con (.bool true)) .nil)))))
    (.cons (.asg (.name 3) (.cell (.lst (.cons (.con (.int 0)) .nil))))
    (.cons (.while_ (.cmp .ne (.var 3) (.lst (.nil))) (.cons (.asg (.name 4) (.pop (.var 3))) (.cons (.for_ (.name 5) (.val (.var 1)) (.cons (.asg (.name 6) (.idx (.idx (.var 0) (.var 4)) (.var 5))) (.cons (.ife (.isinD true (.var 6) (.var 2)) (.cons (.asg (.subD (.var 2) (.var 6)) (.con (.bool true))) (.cons (.expr (.app (.var 3) (.var 6))) .nil)) (.nil)) .nil))) .nil)))
    (.cons (.ret (.bi .tuple (.cons (.dks true (.var 2)) .nil))) .nil)))⟩

def d_turned_all (i_turned_by : Nat) : Def := ⟨"turned_all", ["group", "things"], ["group", "things", "found", "one", "t"],
  .cons (.asg (.name 2) (.cell (.lst (.nil))))
    (.cons (.for_ (.name 3) (.val (.var 1)) (.cons (.expr (.ext (.var 2) (.comp (.call i_turned_by (.cons (.var 0) (.cons (.var 3) (.cons (.var 4) .nil)))) (.name 4) (.rng1 (.bi .len (.cons (.var 0) .nil))) .none [("t", 4)]))) .nil))
    (.cons (.ret (.var 2)) .nil))⟩

def d_over (i_side_numbers : Nat) (i_sides : Nat) (i_is_kept : Nat) : Def := ⟨"over", ["group", "part"], ["group", "part", "rows", "numbers", "other", "one"],
  .cons (.ife (.not (.call i_is_kept (.cons (.var 0) (.cons (.var 1) .nil)))) (.cons (.raise 10 [] (.cons (.con (.str "a part that is not kept")) .nil)) .nil) (.nil))
    (.cons (.asg (.name 2) (.call i_sides (.cons (.var 0) (.cons (.var 1) .nil))))
    (.cons (.asg (.name 3) (.cell (.call i_side_numbers (.cons (.var 2) .nil))))
    (.cons (.ret (.bi .tuple (.cons (.comp (.bi .tuple (.cons (.comp (.idxD (.var 3) (.idx (.idx (.var 0) (.idx (.var 5) (.con (.int 0)))) (.idx (.var 4) (.con (.int 0))))) (.name 4) (.val (.var 2)) .none [("other", 4)]) .nil)) (.name 5) (.val (.var 2)) .none [("one", 5)]) .nil))) .nil)))⟩

def d_law_told (i_over : Nat) : Def := ⟨"_law_told", ["_law_group_here", "_law_part_here"], ["_law_group_here", "_law_part_here", "_law_error", "_law_found", "e", "_law_kinds"],
  .cons (.asg (.name 2) (.con (.none)))
    (.cons (.asg (.name 3) (.con (.none)))
    (.cons (.tryA (some 3) (.call i_over (.cons (.var 0) (.cons (.var 1) .nil))) 10 (some 4) (.cons (.asg (.name 2) (.var 4)) .nil))
    (.cons (.ife (.exN false (.var 2)) (.cons (.ret (.var 3)) .nil) (.nil))
    (.cons (.asg (.name 5) (.cell (.lst (.cons (.exI (.var 2) [5, 1, 6, 7, 9, 2]) .nil))))
    (.cons (.expr (.app (.var 5) (.exI (.var 2) [12, 4, 3, 11, 8])))
    (.cons (.ret (.ife (.and (.cmp .eq (.var 5) (.lst (.cons (.con (.bool false)) (.cons (.con (.bool false)) .nil)))) (.exV (.var 2))) (.con (.str "none")) (.con (.str "odd")))) .nil))))))⟩

def d_law_over_right (i_ask_group : Nat) (i_sides : Nat) : Def := ⟨"_law_over_right", ["_law_group_here", "_law_part_here", "_law_found"], ["_law_group_here", "_law_part_here", "_law_found", "_law_rows", "_law_i", "_law_j", "_law_goal", "_law_a", "_law_b"],
  .cons (.asg (.name 3) (.call i_sides (.cons (.var 0) (.cons (.var 1) .nil))))
    (.cons (.ife (.or (.not (.isi (.var 2) [.tuple] false)) (.cmp .ne (.bin .mul (.bi .len (.cons (.var 2) .nil)) (.bi .len (.cons (.var 1) .nil))) (.bi .len (.cons (.var 0) .nil)))) (.cons (.ret (.con (.bool false))) .nil) (.nil))
    (.cons (.ife (.cmp .notN (.call i_ask_group (.cons (.var 2) .nil)) (.con (.bool true))) (.cons (.ret (.con (.bool false))) .nil) (.nil))
    (.cons (.for_ (.name 4) (.rng1 (.bi .len (.cons (.var 3) .nil))) (.cons (.ife (.not (.isi (.idx (.var 2) (.var 4)) [.tuple] false)) (.cons (.ret (.con (.bool false))) .nil) (.nil)) (.cons (.for_ (.name 5) (.rng1 (.bi .len (.cons (.var 3) .nil))) (.cons (.asg (.name 6) (.idx (.var 3) (.idx (.idx (.var 2) (.var 4)) (.var 5)))) (.cons (.for_ (.name 7) (.val (.idx (.var 3) (.var 4))) (.cons (.ife (.cmp .ne (.comp (.var 8) (.name 8) (.val (.idx (.var 3) (.var 5))) (.some (.isin true (.idx (.idx (.var 0) (.var 7)) (.var 8)) (.var 6))) [("_law_b", 8)]) (.lst (.nil))) (.cons (.ret (.con (.bool false))) .nil) (.nil)) .nil)) .nil))) .nil)))
    (.cons (.ret (.con (.bool true))) .nil))))⟩

def d_law (i_law_over_right : Nat) (i_law_told : Nat) (i_law_turned : Nat) (i_kept_by : Nat) (i_law_some : Nat) (i_law_any_part : Nat) (i_over : Nat) (i_law_group : Nat) (i_law_tape : Nat) : Def := ⟨"law", ["_law_script"], ["_law_script", "_law_k", "_law_tape_here", "_law_group_here", "_law_turn", "_law_part_here", "_law_kept", "_law_t", "_law_found", "_law_h"],
  .cons (.for_ (.name 1) (.rng1 (.bin .add (.con (.int 1)) (.bi .len (.cons (.slc (.var 0) .none (.some (.con (.int 4)))) .nil)))) (.cons (.asg (.name 2) (.cell (.call i_law_tape (.cons (.var 0) (.cons (.var 1) .nil))))) (.cons (.asg (.name 3) (.call i_law_group (.cons (.var 2) (.cons (.cmp .lt (.var 1) (.con (.int 2))) .nil)))) (.cons (.ife (.or (.cmp .ne (.call i_over (.cons (.var 3) (.cons (.tup (.cons (.con (.int 0)) .nil)) .nil))) (.var 3)) (.cmp .ne (.call i_over (.cons (.var 3) (.cons (.rgv true .none (.bi .len (.cons (.var 3) .nil))) .nil))) (.tup (.cons (.tup (.cons (.con (.int 0)) .nil)) .nil)))) (.cons (.ret (.con (.bool false))) .nil) (.nil)) (.cons (.for_ (.name 4) (.rng1 (.con (.int 3))) (.cons (.asg (.name 5) (.call i_law_any_part (.cons (.var 2) (.cons (.var 3) .nil)))) (.cons (.ife (.cmp .eq (.var 4) (.con (.int 0))) (.cons (.asg (.name 5) (.call i_kept_by (.cons (.var 3) (.cons (.call i_law_some (.cons (.var 2) (.cons (.var 3) .nil))) .nil)))) .nil) (.nil)) (.cons (.asg (.name 6) (.con (.bool true))) (.cons (.for_ (.name 7) (.rng1 (.bi .len (.cons (.var 3) .nil))) (.cons (.ife (.cmp .ne (.comp (.con (.int 0)) (.name 9) (.val (.var 5)) (.some (.isin true (.call i_law_turned (.cons (.var 3) (.cons (.var 9) (.cons (.var 7) .nil)))) (.var 5))) [("_law_h", 9)]) (.lst (.nil))) (.cons (.asg (.name 6) (.con (.bool false))) .nil) (.nil)) .nil)) (.cons (.asg (.name 8) (.call i_law_told (.cons (.var 3) (.cons (.var 5) .nil)))) (.cons (.ife (.or (.and (.not (.var 6)) (.cmp .ne (.var 8) (.con (.str "none")))) (.and (.var 6) (.not (.call i_law_over_right (.cons (.var 3) (.cons (.var 5) (.cons (.var 8) .nil))))))) (.cons (.ret (.con (.bool false))) .nil) (.nil)) .nil))))))) .nil)))))
    (.cons (.ret (.con (.bool true))) .nil)⟩

theorem exc_iff {Xp : Exc → Store → Prop} {α : Type} {m : M α} {st s : Store} {x : Exc} {Q : α → Store → Prop} (h : ∀ X : Exc → Store → Prop, X x s → wp X m st fun _ _ => False) : wp Xp m st Q ↔ Xp x s := by
  have := h (fun y t => y = x ∧ t = s) ⟨rfl, rfl⟩
  unfold wp at this ⊢
  cases e : m st with
  | ok a t => rw [e] at this; exact this.elim
  | exc y t => rw [e] at this; obtain ⟨rfl, rfl⟩ := this; exact Iff.rfl
  | no => rw [e] at this; exact this.elim
theorem like_all {i : Nat} : Like (d_turned_all i) (d_law_turned_all i) := ⟨fun C => by funext ρ; simp only [d_turned_all, d_law_turned_all, evSts, evSt, evE, List.map_cons, List.map_nil], rfl, rfl⟩
theorem len_take4 {ns : List Int} : ((ns.map PyData.int).take 4).length = (ns.take 4).length := by simp
theorem four {ns : List Int} {j : Nat} (h : j < (1 + ((ns.take 4).length : Int)).toNat) : j ≤ 100 := by
  rw [List.length_take] at h
  omega
/-! ### groups told as rows -/
theorem eqv_Ts : ∀ a b : List Pm, PyData.eqvAll (a.map tupN) (b.map tupN) = (a == b)
  | [], [] => rfl
  | [], _ :: _ => rfl
  | _ :: _, [] => rfl
  | x :: a, y :: b => by
    rw [List.map_cons, List.map_cons, PyData.eqvAll, eqv_Ts a b, eqv_T]
    rfl
theorem o_neTs {a b : List Pm} : copV .ne (.tuple (a.map tupN)) (.tuple (b.map tupN)) = some (!(a == b)) := by
  show (if shal 60 (.tuple (a.map tupN)) && shal 60 (.tuple (b.map tupN)) then some (not (PyData.eqvAll (a.map tupN) (b.map tupN))) else none) = _
  rw [eqv_Ts, if_pos]
  have h1 : shal 60 (.tuple (a.map tupN)) = true := shal_Ts _ _
  have h2 : shal 60 (.tuple (b.map tupN)) = true := shal_Ts _ _
  rw [h1, h2]
  rfl
def rws (n : Nat) (m : Nat → Nat → Nat) : List Pm := (List.range n).map fun i => (List.range n).map (m i)
theorem gD_rws (n : Nat) (m : Nat → Nat → Nat) : gD n m = .tuple ((rws n m).map tupN) := by
  unfold gD rws tupN
  rw [List.map_map]
  congr 1
  refine List.map_congr_left fun i _ => ?_
  show PyData.tuple _ = PyData.tuple _
  rw [List.map_map]
  rfl
theorem o_neG {n m n' m'} : copV .ne (gD n m) (gD n' m') = some (!(rws n m == rws n' m')) := by
  rw [gD_rws, gD_rws, o_neTs]
theorem gD_congr {n : Nat} {m m' : Nat → Nat → Nat} (h : ∀ i j, i < n → j < n → m i j = m' i j) : gD n m = gD n m' := by
  unfold gD
  congr 1
  refine List.map_congr_left fun i hi => ?_
  congr 1
  refine List.map_congr_left fun j hj => ?_
  rw [h i j (List.mem_range.mp hi) (List.mem_range.mp hj)]
/-! ### the sides' own times -/
section
variable {n : Nat} {m : Nat → Nat → Nat} {p : Nat → Bool}
theorem kept_all : keptB n m p = true ↔ ∀ h, h < n → p h = true → ∀ t, t < n → p (turn n m h t) = true ∧ turn n m h t < n := by
  unfold keptB tall
  rw [List.all_eq_true]
  constructor
  · intro h x hx px t ht
    have := h (turn n m x t) (List.mem_flatMap.mpr ⟨x, mem_pL.mpr ⟨hx, px⟩, List.mem_map.mpr ⟨t, List.mem_range.mpr ht, rfl⟩⟩)
    have := mem_pL.mp (List.contains_iff_mem.mp this)
    exact ⟨this.2, this.1⟩
  · intro h y hy
    obtain ⟨x, hx, hy⟩ := List.mem_flatMap.mp hy
    obtain ⟨t, ht, rfl⟩ := List.mem_map.mp hy
    obtain ⟨h1, h2⟩ := h x (mem_pL.mp hx).1 (mem_pL.mp hx).2 t (List.mem_range.mp ht)
    exact List.contains_iff_mem.mpr (mem_pL.mpr ⟨h2, h1⟩)
def mOv (n : Nat) (m : Nat → Nat → Nat) (p : Nat → Bool) (i j : Nat) : Nat := nb (sd n m p n) (m (((sd n m p n).getD i []).getD 0 0) (((sd n m p n).getD j []).getD 0 0))
/-- a thing of a side times a thing, of a kept part -/
theorem side_mulR (G : Grp n m) (K : keptB n m p = true) {x y b : Nat} (hy : y < n) (hb : b < n) (hx : x ∈ side n m p y) : m x b ∈ side n m p (m y b) := by
  obtain ⟨h, hh, ph, rfl⟩ := (mem_side G hy).mp hx
  obtain ⟨b2, b3, b4⟩ := (G.bk_is hb).2
  obtain ⟨k1, k2⟩ := kept_all.mp K h hh ph (bk n m b) b2
  obtain ⟨c1, c2, -⟩ := (G.bk_is b2).2
  have ec : bk n m (bk n m b) = b := G.inj b2 c1 hb (by rw [c2, b4])
  have mh := G.lt _ _ b2 hh
  have e : m b (turn n m h (bk n m b)) = m h b := by
    show m b (m (m (bk n m b) h) (bk n m (bk n m b))) = _
    rw [ec, ← G.assoc _ _ _ hb mh hb, ← G.assoc _ _ _ hb b2 hh, b3, G.one _ hh]
  exact (mem_side G (G.lt _ _ hy hb)).mpr ⟨_, k2, k1, by rw [G.assoc _ _ _ hy hb k2, e, G.assoc _ _ _ hy hh hb]⟩
theorem ov_nb (G : Grp n m) (H : Part n m p) (K : keptB n m p = true) {x y : Nat} (hx : x < n) (hy : y < n) : mOv n m p (nb (sd n m p n) x) (nb (sd n m p n) y) = nb (sd n m p n) (m x y) := by
  have S := sds_of G H
  obtain ⟨x1, x2⟩ := S.num x hx
  obtain ⟨y1, y2⟩ := S.num y hy
  obtain ⟨a1, a2, a3⟩ := S.at_ _ x1
  obtain ⟨b1, b2, b3⟩ := S.at_ _ y1
  rw [x2] at a3
  rw [y2] at b3
  unfold mOv
  rw [x2, y2]
  rw [x2] at a1
  rw [y2] at b1
  rw [nb_eq G H S (G.lt _ _ a1 b1) (G.lt _ _ hx hy), side_eq G H (G.lt _ _ hx b1) (side_mulR G K hx b1 a3), side_eq G H (G.lt _ _ hx hy) (side_mul G hx hy b3)]
theorem rep_nb (G : Grp n m) (H : Part n m p) {i : Nat} (hi : i < (sd n m p n).length) : ∃ x, x < n ∧ nb (sd n m p n) x = i := by
  have S := sds_of G H
  obtain ⟨a1, a2, a3⟩ := S.at_ i hi
  obtain ⟨x1, x2⟩ := S.num _ a1
  exact ⟨_, a1, S.inj _ _ x1 hi (x2.trans a2.symm)⟩
theorem nb_0 (G : Grp n m) (H : Part n m p) : nb (sd n m p n) 0 = 0 := by
  have S := sds_of G H
  obtain ⟨x1, x2⟩ := S.num 0 G.pos
  exact S.inj _ _ x1 S.pos (x2.trans S.zero.1.symm)
theorem ov_grp (G : Grp n m) (H : Part n m p) (K : keptB n m p = true) : Grp (sd n m p n).length (mOv n m p) := by
  have S := sds_of G H
  have n0 := nb_0 G H
  have n1 := G.pos
  refine ⟨S.pos, Nat.le_trans S.le G.le, ?_, ?_, ?_, ?_, ?_⟩
  · intro i j hi hj
    obtain ⟨x, hx, rfl⟩ := rep_nb G H hi
    obtain ⟨y, hy, rfl⟩ := rep_nb G H hj
    rw [ov_nb G H K hx hy]
    exact (S.num _ (G.lt _ _ hx hy)).1
  · intro i j k hi hj hk
    obtain ⟨x, hx, rfl⟩ := rep_nb G H hi
    obtain ⟨y, hy, rfl⟩ := rep_nb G H hj
    obtain ⟨z, hz, rfl⟩ := rep_nb G H hk
    rw [ov_nb G H K hx hy, ov_nb G H K hy hz, ov_nb G H K (G.lt _ _ hx hy) hz, ov_nb G H K hx (G.lt _ _ hy hz), G.assoc _ _ _ hx hy hz]
  · intro i hi
    obtain ⟨x, hx, rfl⟩ := rep_nb G H hi
    have := ov_nb G H K n1 hx
    rwa [n0, G.one _ hx] at this
  · intro i hi
    obtain ⟨x, hx, rfl⟩ := rep_nb G H hi
    have := ov_nb G H K hx n1
    rwa [n0, G.one' _ hx] at this
  · intro i hi
    obtain ⟨x, hx, rfl⟩ := rep_nb G H hi
    obtain ⟨y, hy, e1, e2⟩ := G.back x hx
    exact ⟨nb (sd n m p n) y, (S.num y hy).1, by rw [ov_nb G H K hx hy, e1, n0], by rw [ov_nb G H K hy hx, e2, n0]⟩
/-- all times of two sides' things lie in one side -/
theorem ov_mem (G : Grp n m) (H : Part n m p) (K : keptB n m p = true) {i j a b : Nat} (hi : i < (sd n m p n).length) (hj : j < (sd n m p n).length) (ha : a ∈ (sd n m p n).getD i []) (hb : b ∈ (sd n m p n).getD j []) : a < n ∧ b < n ∧ ((sd n m p n).getD (mOv n m p i j) []).contains (m a b) = true := by
  have S := sds_of G H
  have key : ∀ {i a}, i < (sd n m p n).length → a ∈ (sd n m p n).getD i [] → a < n ∧ nb (sd n m p n) a = i := fun {i a} hi ha => by
    obtain ⟨a1, a2, a3⟩ := S.at_ i hi
    rw [a2] at ha
    have hl := side_lt ha
    obtain ⟨x1, x2⟩ := S.num a hl
    exact ⟨hl, S.inj _ _ x1 hi (by rw [x2, side_eq G H a1 ha, ← a2])⟩
  obtain ⟨a1, rfl⟩ := key hi ha
  obtain ⟨b1, rfl⟩ := key hj hb
  refine ⟨a1, b1, ?_⟩
  rw [ov_nb G H K a1 b1, (S.num _ (G.lt _ _ a1 b1)).2]
  exact List.contains_iff_mem.mpr (side_self G H (G.lt _ _ a1 b1))
theorem sum_const {l : List Pm} {c : Nat} (h : ∀ r ∈ l, r.length = c) : l.flatten.length = l.length * c := by
  induction l with
  | nil => simp
  | cons r l ih => rw [List.flatten_cons, List.length_append, ih fun s hs => h s (List.mem_cons_of_mem _ hs), h r (List.mem_cons_self ..), List.length_cons, Nat.succ_mul, Nat.add_comm]
theorem ov_many (G : Grp n m) (H : Part n m p) : (sd n m p n).length * (pL n p).length = n := by
  have S := sdOk G H n (Nat.le_refl _)
  have h1 := sum_const (l := sd n m p n) (c := (pL n p).length) fun r hr => by
    obtain ⟨b, hb, rfl, _⟩ := S.of r hr
    exact side_len G hb
  have h2 : (sd n m p n).flatten.Perm (List.range n) := nodup_permN S.nd (fun x hx => List.mem_range.mpr (S.lt hx)) (by
    rw [List.length_range]
    have : (List.range n).length ≤ (sd n m p n).flatten.length := List.nodup_range.length_le_of_subset fun x hx => by
      have hx := List.mem_range.mp hx
      exact List.mem_flatten.mpr ⟨_, S.all x hx, side_self G H hx⟩
    rwa [List.length_range] at this)
  rw [← h1, h2.length_eq, List.length_range]
/-! ### the least part and all things -/
theorem pL_one (h : 1 ≤ n) : pL n (fun x => x == 0) = [0] := flt_range n 0 (by omega)
theorem one_part (G : Grp n m) : Part n m fun x => x == 0 := by
  refine ⟨rfl, fun a b _ _ ha hb => ?_⟩
  rw [beq_iff_eq] at *
  subst ha hb
  exact G.one _ G.pos
theorem all_part (n : Nat) (m : Nat → Nat → Nat) : Part n m fun _ => true := ⟨rfl, fun _ _ _ _ _ _ => rfl⟩
theorem kept_one (G : Grp n m) : keptB n m (fun x => x == 0) = true := kept_all.mpr fun h hh ph t ht => by
  have e : h = 0 := beq_iff_eq.mp ph
  subst e
  have : turn n m 0 t = 0 := by
    show m (m t 0) (bk n m t) = 0
    rw [G.one' _ ht, (G.bk_is ht).2.2.1]
  rw [this]
  exact ⟨rfl, hh⟩
theorem kept_true (G : Grp n m) : keptB n m (fun _ => true) = true := kept_all.mpr fun h hh _ t ht => ⟨rfl, turn_lt G hh ht⟩
theorem side_one (G : Grp n m) {a : Nat} (ha : a < n) : side n m (fun x => x == 0) a = [a] := by
  unfold side
  rw [pL_one G.pos]
  show pL n [m a 0].contains = [a]
  rw [G.one' _ ha]
  have : [a].contains = fun x => x == a := by
    funext x
    rw [Bool.eq_iff_iff, List.contains_iff_mem, List.mem_singleton, beq_iff_eq]
  rw [this]
  exact flt_range n a ha
theorem sd_one (G : Grp n m) : ∀ j, j ≤ n → sd n m (fun x => x == 0) j = (List.range j).map fun a => [a]
  | 0, _ => rfl
  | j + 1, h => by
    rw [sd, side_one G (by omega), sd_one G j (by omega), if_neg, List.range_succ, List.map_append]
    · rfl
    · rw [memP_iff, List.mem_map]
      rintro ⟨x, hx, e⟩
      have := List.mem_range.mp hx
      have : x = j := List.head_eq_of_cons_eq e
      omega
theorem gD_one (G : Grp n m) : gD (sd n m (fun x => x == 0) n).length (mOv n m fun x => x == 0) = gD n m := by
  have e := sd_one G n (Nat.le_refl n)
  have el : (sd n m (fun x => x == 0) n).length = n := by rw [e, List.length_map, List.length_range]
  rw [el]
  refine gD_congr fun i j hi hj => ?_
  have H := one_part G
  have S := sds_of G H
  have key : ∀ x, x < n → nb (sd n m (fun x => x == 0) n) x = x := fun x hx => by
    obtain ⟨x1, x2⟩ := S.num x hx
    rw [side_one G hx] at x2
    rw [el] at x1
    generalize nb (sd n m (fun x => x == 0) n) x = q at x1 x2
    rw [e, range_get _ _ x1] at x2
    exact List.head_eq_of_cons_eq x2
  have := ov_nb G H (kept_one G) hi hj
  rwa [key i hi, key j hj, key _ (G.lt _ _ hi hj)] at this
theorem gD_all (G : Grp n m) : gD (sd n m (fun _ => true) n).length (mOv n m fun _ => true) = .tuple [.tuple [.int 0]] := by
  have H := all_part n m
  have S := sds_of G H
  have h := ov_many G H
  have e1 : (pL n fun _ => true).length = n := by
    have : (pL n fun _ => true) = List.range n := List.filter_eq_self.mpr fun _ _ => rfl
    rw [this, List.length_range]
  rw [e1] at h
  have n1 := G.pos
  have el : (sd n m (fun _ => true) n).length = 1 := by
    have : (sd n m (fun _ => true) n).length * n = 1 * n := by rw [h, Nat.one_mul]
    exact Nat.eq_of_mul_eq_mul_right n1 this
  have := (ov_grp G H (kept_true G)).lt 0 0 (by omega) (by omega)
  rw [el] at this ⊢
  have e0 : mOv n m (fun _ => true) 0 0 = 0 := by omega
  show PyData.tuple [.tuple [natD (mOv n m (fun _ => true) 0 0)]] = _
  rw [e0]
  rfl
theorem pD_one (h : 1 ≤ n) : PyData.tuple [.int 0] = pD n fun x => x == 0 := by
  unfold pD
  rw [pL_one h]
  rfl
theorem pD_all : PyData.tuple ((List.range n).map fun k => .int (k : Nat)) = pD n fun _ => true := by
  show PyData.tuple ((List.range n).map natD) = _
  unfold pD
  have : (pL n fun _ => true) = List.range n := List.filter_eq_self.mpr fun _ _ => rfl
  rw [this]
end
section
variable {Xp : Exc → Store → Prop} {P : List Def} {w k f : Nat} {st : Store} {Q : D → Store → Prop} {n : Nat} {m : Nat → Nat → Nat} {p : Nat → Bool}
theorem over_w {isn isd ikp ib it ia : Nat} (hf : P[f]? = some (d_over isn isd ikp)) (h1 : P[isn]? = some d_side_numbers) (h2 : P[isd]? = some d_sides) (h3 : P[ikp]? = some (d_is_kept ia)) (T : TxT P ib it ia) (hk : 4 < k) (G : Grp n m) (H : Part n m p) (hkp : keptB n m p = true) : wp Xp (callF P w k f [.dat (gD n m), .dat (pD n p)]) st Q ↔ Q (.dat (gD (sd n m p n).length (mOv n m p))) st := runs_iff fun R hR => by
  have n60 := G.le
  have S := sds_of G H
  have O := sdOk G H n (Nat.le_refl n)
  have sl := S.le
  have fl : ∀ x, x < n → x ∈ (sd n m p n).flatten := fun x hx => List.mem_flatten.mpr ⟨_, O.all x hx, side_self G H hx⟩
  have fle : (sd n m p n).flatten.length ≤ n := nodup_le O.nd fun x hx => O.lt hx
  have sr : seqOf (.dat (rowsD (sd n m p n))) = some ((sd n m p n).map tupN) := rfl
  have sn := fun {X : Exc → Store → Prop} {S' : D → Store → Prop} => side_numbers_w (Xp := X) (P := P) (w := w) (k := k - 1) (st := st) (Q := S') h1 (by omega) O.nd (by omega) (by omega)
  have sn' : ∀ {X : Exc → Store → Prop} {S' : D → Store → Prop}, wp X (callF P w (k - 1) isn [.dat (rowsD (sd n m p n))]) st S' ↔ S' (.newD false (kvN (prsF (sd n m p n) 0))) st := sn
  refine wp_call' hf rfl (by omega) ?_; simp only [d_over, List.map_cons, List.map_nil, List.length_cons, List.length_nil]; rw [wp_blk]
  (repeat' (first | simp? only [is_kept_w (k := k - 1) h3 T (by omega) G, hkp, sides_w (k := k - 1) h2 (by omega) G H, sn', SA, sr] | rw [rst_cons] | rw [wp_blk] | rw [rst_frz] | rw [wp_frz] | (refine And.intro (fun _ => ?_) (fun _ => ?_)) | fail))
  have em : (sd n m p n).map tupN = (List.range (sd n m p n).length).map fun i => tupN ((sd n m p n).getD i []) := map_rng (sd n m p n) [] tupN
  rw [em]
  refine lc_map (e := fun i => tupN ((sd n m p n).getD i [])) (l := List.range (sd n m p n).length) (g := fun i => .tuple ((List.range (sd n m p n).length).map fun j => natD (mOv n m p i j))) (by first | omega | (simp only [List.length_range, List.length_map, List.length_replicate, List.length_append, List.length_cons, List.length_nil]; omega)) (fun i hi R h => ?_) ?_
  · have hi := List.mem_range.mp hi
    obtain ⟨a1, a2, a3⟩ := S.at_ i hi
    have i1 : idxV (tupN ((sd n m p n).getD i [])) (.int 0) = some (natD (((sd n m p n).getD i []).getD 0 0)) := o_gn (List.length_pos_of_mem a3)
    (repeat' (first | simp? only [sr] | rw [rst_cons] | rw [wp_blk] | rw [rst_frz] | rw [wp_frz] | (refine And.intro (fun _ => ?_) (fun _ => ?_)) | fail))
    rw [em]
    refine lc_map (e := fun i => tupN ((sd n m p n).getD i [])) (l := List.range (sd n m p n).length) (g := fun j => natD (mOv n m p i j)) (by first | omega | (simp only [List.length_range, List.length_map, List.length_replicate, List.length_append, List.length_cons, List.length_nil]; omega)) (fun j hj R h => ?_) ?_
    · have hj := List.mem_range.mp hj
      obtain ⟨b1, b2, b3⟩ := S.at_ j hj
      have i2 : idxV (tupN ((sd n m p n).getD j [])) (.int 0) = some (natD (((sd n m p n).getD j []).getD 0 0)) := o_gn (List.length_pos_of_mem b3)
      have dg := prs_get (fl _ (G.lt _ _ a1 b1))
      simp? only [SA, GB, i1, i2, keyOk_n, dg]
      exact h
    · sizeOf_list_dec
      exact h
  · (repeat' (first | simp? only [SA] | rw [rst_cons] | rw [wp_blk] | rw [rst_frz] | rw [wp_frz] | (refine And.intro (fun _ => ?_) (fun _ => ?_)) | fail))
    exact hR
theorem over_x {isn isd ikp ib it ia : Nat} (hf : P[f]? = some (d_over isn isd ikp)) (h3 : P[ikp]? = some (d_is_kept ia)) (T : TxT P ib it ia) (hk : 4 < k) (G : Grp n m) (hkp : keptB n m p = false) : wp Xp (callF P w k f [.dat (gD n m), .dat (pD n p)]) st Q ↔ Xp ⟨10, []⟩ st := exc_iff fun X hX => by
  refine wp_call' hf rfl (by omega) ?_; simp only [d_over, List.map_cons, List.map_nil, List.length_cons, List.length_nil]; rw [wp_blk]
  (repeat' (first | simp? only [is_kept_w (k := k - 1) h3 T (by omega) G, hkp, w_raise] | rw [rst_cons] | rw [wp_blk] | rw [rst_frz] | rw [wp_frz] | (refine And.intro (fun _ => ?_) (fun _ => ?_)) | fail))
  exact ⟨rfl, hX⟩
def SC := And.intro (show subC 10 5 = false from rfl) <| And.intro (show subC 10 1 = false from rfl) <| And.intro (show subC 10 6 = false from rfl) <| And.intro (show subC 10 7 = false from rfl) <| And.intro (show subC 10 9 = false from rfl) <| And.intro (show subC 10 2 = false from rfl) <| And.intro (show subC 10 12 = false from rfl) <| And.intro (show subC 10 4 = false from rfl) <| And.intro (show subC 10 3 = false from rfl) <| And.intro (show subC 10 11 = false from rfl) (show subC 10 8 = false from rfl)
theorem gT_T {l : List Pm} {j : Nat} (h : j < l.length) : idxV (rowsD l) (natD j) = some (tupN (l.getD j [])) := o_gTT h
theorem told_w {isn isd ikp ib it ia jo : Nat} (hf : P[f]? = some (d_law_told jo)) (h0 : P[jo]? = some (d_over isn isd ikp)) (h1 : P[isn]? = some d_side_numbers) (h2 : P[isd]? = some d_sides) (h3 : P[ikp]? = some (d_is_kept ia)) (T : TxT P ib it ia) (hk : 5 < k) (G : Grp n m) (H : Part n m p) : wp Xp (callF P w k f [.dat (gD n m), .dat (pD n p)]) st Q ↔ Q (.dat (if keptB n m p then gD (sd n m p n).length (mOv n m p) else .str "none")) st := runs_iff fun R hR => by
  refine wp_call' hf rfl (by omega) ?_; simp only [d_law_told, List.map_cons, List.map_nil, List.length_cons, List.length_nil]; rw [wp_blk]
  cases hkp : keptB n m p
  · rw [hkp] at hR
    (repeat' (first | simp? only [w_tryA, over_x (k := k - 1) h0 h3 T (by omega) G hkp] | rw [rst_cons] | rw [wp_blk] | rw [rst_frz] | rw [wp_frz] | (refine And.intro (fun _ => ?_) (fun _ => ?_)) | fail))
    refine ⟨rfl, ?_⟩
    rw [w_unE]
    (repeat' (first | simp? only [SA, bindO_some, unO_next, w_exN, w_isNR, w_exI, w_excAt, w_exV, Cell.exc.injEq, SC] | rw [rst_cons] | rw [wp_blk] | rw [rst_frz] | rw [wp_frz] | (refine And.intro (fun _ => ?_) (fun _ => ?_)) | fail))
    exact ⟨true, rfl, fun _ => hR, fun h => nomatch h⟩
  · rw [hkp] at hR
    (repeat' (first | simp? only [w_tryA, over_w (k := k - 1) h0 h1 h2 h3 T (by omega) G H hkp, bindO_some, w_exN, w_isND, isNone_none] | rw [rst_cons] | rw [wp_blk] | rw [rst_frz] | rw [wp_frz] | (refine And.intro (fun _ => ?_) (fun _ => ?_)) | fail))
    exact hR
theorem right_w {jt jk js jw ja isd : Nat} (hf : P[f]? = some (d_law_over_right ja isd)) (h2 : P[isd]? = some d_sides) (h5 : P[ja]? = some (d_ask_group jt jk js)) (q1 : P[jt]? = some d_is_threefold) (q2 : P[jk]? = some d_has_back) (q3 : P[js]? = some (d_is_shaped jw)) (q4 : P[jw]? = some d_is_whole) (hk : 5 < k) (G : Grp n m) (H : Part n m p) (K : keptB n m p = true) : wp Xp (callF P w k f [.dat (gD n m), .dat (pD n p), .dat (gD (sd n m p n).length (mOv n m p))]) st Q ↔ Q (.dat (.bool true)) st := runs_iff fun R hR => by
  have n60 := G.le
  have S := sds_of G H
  have sl := S.le
  have GO := ov_grp G H K
  have i1 : isiV .tuple (gD (sd n m p n).length (mOv n m p)) = true := rfl
  have om := ov_many G H
  have om' : bopV .mul (.int (sd n m p n).length) (.int (pL n p).length) = some (.dat (.int n)) := by
    have h1 := pL_le n p
    have := o_mulN (a := (sd n m p n).length) (b := (pL n p).length) (by omega) (by omega)
    rw [om] at this
    exact this
  have lp : biV .len [pD n p] = some (.dat (.int (pL n p).length)) := o_lenP
  have ln : biV .len [rowsD (sd n m p n)] = some (.dat (.int (sd n m p n).length)) := by
    unfold rowsD
    rw [o_lenT, List.length_map]
  refine wp_call' hf rfl (by omega) ?_; simp only [d_law_over_right, List.map_cons, List.map_nil, List.length_cons, List.length_nil]; rw [wp_blk]
  (repeat' (first | simp? only [sides_w (k := k - 1) h2 (by omega) G H, i1, GB, lp, ln, om', ask_group_w (k := k - 1) h5 q1 q2 q3 q4 (by omega) GO] | rw [rst_cons] | rw [wp_blk] | rw [rst_frz] | rw [wp_frz] | (refine And.intro (fun _ => ?_) (fun _ => ?_)) | fail))
  have q60 := GO.le
  refine for_rng (fun i ρ s => ∃ (x4 x5 x6 x7 : Option D), ρ = [some (.dat (gD n m)), some (.dat (pD n p)), some (.dat (gD (sd n m p n).length (mOv n m p))), some (.dat (rowsD (sd n m p n))), x4, x5, x6, x7, none] ∧ s = st) ⟨_, _, _, _, rfl, rfl⟩ ?_ ?_
  · rintro i ρ1 s1 hi ⟨x4, x5, x6, x7, rfl, rfl⟩
    have hi : i < (sd n m p n).length := by omega
    have i2 : ∀ i, isiV .tuple (rowD (sd n m p n).length (mOv n m p) i) = true := fun _ => rfl
    (repeat' (first | simp? only [GB, NB, i2, ln] | rw [rst_cons] | rw [wp_blk] | rw [rst_frz] | rw [wp_frz] | (refine And.intro (fun _ => ?_) (fun _ => ?_)) | fail))
    refine for_rng (fun j ρ s => ∃ (x5 x6 x7 : Option D), ρ = [some (.dat (gD n m)), some (.dat (pD n p)), some (.dat (gD (sd n m p n).length (mOv n m p))), some (.dat (rowsD (sd n m p n))), some (.dat (natD i)), x5, x6, x7, none] ∧ s = s1) ⟨_, _, _, rfl, rfl⟩ ?_ ?_
    · rintro j ρ1 s2 hj ⟨x5, x6, x7, rfl, rfl⟩
      have hj : j < (sd n m p n).length := by omega
      have hm := GO.lt i j hi hj
      have sq : ∀ r : Pm, seqOf (.dat (tupN r)) = some (r.map natD) := fun _ => rfl
      (repeat' (first | simp? only [GB, NB, gT_T hm, gT_T hi, sq] | rw [rst_cons] | rw [wp_blk] | rw [rst_frz] | rw [wp_frz] | (refine And.intro (fun _ => ?_) (fun _ => ?_)) | fail))
      refine for_by (e := natD) (l := (sd n m p n).getD i []) (fun a ρ s => ∃ (x7 : Option D), ρ = [some (.dat (gD n m)), some (.dat (pD n p)), some (.dat (gD (sd n m p n).length (mOv n m p))), some (.dat (rowsD (sd n m p n))), some (.dat (natD i)), some (.dat (natD j)), some (.dat (tupN ((sd n m p n).getD (mOv n m p i j) []))), x7, none] ∧ s = s2) ⟨_, rfl, rfl⟩ ?_ ?_
      · rintro q a ρ1 s3 ha ⟨x7, rfl, rfl⟩
        have ha := List.mem_of_getElem? ha
        have lj : ((sd n m p n).getD j []).length ≤ 100 := by
          rw [(S.at_ j hj).2.1, side_len G (S.at_ j hj).1]
          have := pL_le n p
          omega
        (repeat' (first | simp? only [GB, NB, gT_T hj, sq] | rw [rst_cons] | rw [wp_blk] | rw [rst_frz] | rw [wp_frz] | (refine And.intro (fun _ => ?_) (fun _ => ?_)) | fail))
        refine lc_flt (e := natD) (l := (sd n m p n).getD j []) (p := fun _ => false) (g := natD) (by omega) (fun b hb R h1 h2 => ?_) ?_
        · obtain ⟨a1, b1, hc⟩ := ov_mem G H K hi hj ha hb
          have it : inV (natD (m a b)) (tupN ((sd n m p n).getD (mOv n m p i j) [])) = some true := by
            unfold tupN
            rw [o_inN, hc]
          simp? only [GB, NB, it]
          exact h2 rfl
        · rw [show (List.filter (fun _ : Nat => false) ((sd n m p n).getD j [])) = [] from List.filter_eq_nil_iff.mpr fun _ _ => by decide]
          sizeOf_list_dec
          exact ⟨_, rfl, rfl⟩
      · rintro ρ1 s3 ⟨x7, rfl, rfl⟩
        sizeOf_list_dec
        exact ⟨_, _, _, rfl, rfl⟩
    · rintro ρ1 s2 ⟨x5, x6, x7, rfl, rfl⟩
      sizeOf_list_dec
      exact ⟨_, _, _, _, rfl, rfl⟩
  · rintro ρ1 s1 ⟨x4, x5, x6, x7, rfl, rfl⟩
    sizeOf_list_dec
    exact hR
/-- of a thing t: is all of a part turned by it in it? -/
def kpT (n : Nat) (m : Nat → Nat → Nat) (p : Nat → Bool) (t : Nat) : Bool := (pL n p).all fun h => (pL n p).contains (turn n m h t)
theorem kpT_all {n : Nat} {m : Nat → Nat → Nat} {p : Nat → Bool} : (List.range n).all (kpT n m p) = keptB n m p := by
  rw [Bool.eq_iff_iff, List.all_eq_true]
  unfold keptB tall kpT
  rw [List.all_eq_true]
  constructor
  · intro h y hy
    obtain ⟨x, hx, hy⟩ := List.mem_flatMap.mp hy
    obtain ⟨t, ht, rfl⟩ := List.mem_map.mp hy
    exact List.all_eq_true.mp (h t ht) x hx
  · intro h t ht
    refine List.all_eq_true.mpr fun x hx => ?_
    exact h _ (List.mem_flatMap.mpr ⟨x, hx, List.mem_map.mpr ⟨t, ht, rfl⟩⟩)
theorem all_succ {f : Nat → Bool} {u : Nat} : (List.range (u + 1)).all f = ((List.range u).all f && f u) := by
  rw [List.range_succ, List.all_append, List.all_cons, List.all_nil, Bool.and_true]
theorem neK (n : Nat) (m : Nat → Nat → Nat) (p : Nat → Bool) (u : Nat) : copV .ne (.list ((List.filter (fun h => !(pL n p).contains (turn n m h u)) (pL n p)).map fun _ => PyData.int 0)) (.list []) = some (!kpT n m p u) := by
  rw [o_neNilI (g := fun _ => 0)]
  congr 2
  unfold kpT
  rw [Bool.eq_iff_iff, List.isEmpty_iff, List.filter_eq_nil_iff, List.all_eq_true]
  simp
theorem gs {q : Nat} {M : Nat → Nat → Nat} {s : Str} : copV .ne (gD q M) (.str s) = some true := by
  rw [gD_rws]
  show (if shal 60 (.tuple ((rws q M).map tupN)) && shal 60 (.str s) then some (not (PyData.eqv (.tuple ((rws q M).map tupN)) (.str s))) else none) = _
  have h1 : shal 60 (.tuple ((rws q M).map tupN)) = true := shal_Ts _ _
  rw [h1]
  rfl
theorem main_ok {it ip ic im ia ih ig ir is iy isn isd ikp ib iu iA jo jp jkb lb lt jt jk js jw ja lto lor : Nat} {dp : Def} (T : TxG P it ip ic im ia ih ig) (U : TxP P ip ir is iy) (V : TxT P ib iu iA) (B : TxB P lb lt) (h0 : P[jo]? = some (d_over isn isd ikp)) (h1 : P[isn]? = some d_side_numbers) (h2 : P[isd]? = some d_sides) (h3 : P[ikp]? = some (d_is_kept iA)) (hp : P[jp]? = some dp) (lp : Like dp d_law_part) (hkb : P[jkb]? = some (d_kept_by jp iA)) (h5 : P[ja]? = some (d_ask_group jt jk js)) (q1 : P[jt]? = some d_is_threefold) (q2 : P[jk]? = some d_has_back) (q3 : P[js]? = some (d_is_shaped jw)) (q4 : P[jw]? = some d_is_whole) (hto : P[lto]? = some (d_law_told jo)) (hor : P[lor]? = some (d_law_over_right ja isd))
    (hf : P[f]? = some (d_law lor lto lt jkb is iy jo ig it)) (hw : 65 ≤ w) (hk : 6 < k)
    {ns : List Int} (hn : ns.length ≤ 63) : wp Xp (callF P w k f [.dat (.list (ns.map .int))]) [] fun d _ => d = .dat (.bool true) := by
  refine wp_call' hf rfl (by omega) ?_; simp only [d_law, List.map_cons, List.map_nil, List.length_cons, List.length_nil]; rw [wp_blk]
  (repeat' (first | simp? only [len_take4] | rw [rst_cons] | rw [wp_blk] | rw [rst_frz] | rw [wp_frz] | (refine And.intro (fun _ => ?_) (fun _ => ?_)) | fail))
  refine for_rng (fun j ρ s => ∃ x1 x2 x3 x4 x5 x6 x7 x8 : Option D, ρ = [some (.dat (.list (ns.map .int))), x1, x2, x3, x4, x5, x6, x7, x8, none]) ⟨_, _, _, _, _, _, _, _, rfl⟩ ?_ ?_
  · rintro j ρ1 s1 hj ⟨x1, x2, x3, x4, x5, x6, x7, x8, rfl⟩
    have hj := four hj
    sizeOf_list_dec
    refine tape_c T.tape (by omega) hj hn fun kvs hF => ?_
    sizeOf_list_dec
    have hi : (s1 ++ [Cell.dct false kvs])[s1.length]? = some (.dct false kvs) := sg0 rfl
    generalize s1 ++ [Cell.dct false kvs] = s2 at hi ⊢
    refine T.group_c (by omega) hw hi hF (by omega) fun n m c G n24 hF => ?_
    have hi := gset (c := c) hi
    generalize s2.set s1.length c = s3 at hi ⊢
    generalize s1.length = i at hi ⊢
    have n60 := G.le
    have n1 := G.pos
    have gg : copV .ne (gD n m) (gD n m) = some false := by rw [o_neG, beq_self_eq_true]; rfl
    have g0 : copV .ne (.tuple [pD n fun x => x == 0]) (.tuple [pD n fun x => x == 0]) = some false := by rw [← pD_one n1]; rfl
    (repeat' (first | simp? only [GB, pD_one n1, pD_all, over_w (k := k - 1) h0 h1 h2 h3 V (by omega) G (one_part G) (kept_one G), over_w (k := k - 1) h0 h1 h2 h3 V (by omega) G (all_part n m) (kept_true G), gD_one G, gD_all G, gg, g0] | rw [rst_cons] | rw [wp_blk] | rw [rst_frz] | rw [wp_frz] | (refine And.intro (fun _ => ?_) (fun _ => ?_)) | fail))
    refine for_rng (fun t ρ s => ∃ (c : Cell) (x4 x5 x6 x7 x8 : Option D), ρ = [some (.dat (.list (ns.map .int))), some (.dat (.int j)), some (.ref i), some (.dat (gD n m)), x4, x5, x6, x7, x8, none] ∧ s[i]? = some c ∧ TpC (40 + 6 * t) c) ⟨c, _, _, _, _, _, rfl, hi, hF.mono (by omega)⟩ ?_ ?_
    · clear hi hF hj
      rintro t ρ1 s1 ht ⟨c, x4, x5, x6, x7, x8, rfl, hi, hF⟩
      sizeOf_list_dec
      refine T.any_c U (by omega) hw hi hF (by omega) G fun p c H hF => ?_
      have hi := gset (c := c) hi
      generalize s1.set i c = s2 at hi ⊢
      by_cases ht0 : t = 0
      · subst ht0
        have d0 : decide (((0 : Nat) : Int) = 0) = true := rfl
        (repeat' (first | simp? only [d0] | rw [rst_cons] | rw [wp_blk] | rw [rst_frz] | rw [wp_frz] | (refine And.intro (fun _ => ?_) (fun _ => ?_)) | fail))
        refine some_c U.some_ T.pick (by omega) hi hF (by omega) G fun ts c lt l2 hF => ?_
        have hi := gset (c := c) hi
        generalize s2.set i c = s4 at hi ⊢
        (repeat' (first | simp? only [kept_by_w (k := k - 1) hkb hp lp V (by omega) hw G (dd := .list (ts.map natD)) (ts := ts) rfl lt (by omega)] | rw [rst_cons] | rw [wp_blk] | rw [rst_frz] | rw [wp_frz] | (refine And.intro (fun _ => ?_) (fun _ => ?_)) | fail))
        have H := gen_part G (ts := tall n m ts) (tall_lt G lt)
        generalize genB m (tall n m ts) = p at H ⊢
        have pl := pL_le n p
        (repeat' (first | simp? only [GB] | rw [rst_cons] | rw [wp_blk] | rw [rst_frz] | rw [wp_frz] | (refine And.intro (fun _ => ?_) (fun _ => ?_)) | fail))
        refine for_rng (fun u ρ s => ∃ (x7 x8 : Option D), ρ = [some (.dat (.list (ns.map .int))), some (.dat (.int j)), some (.ref i), some (.dat (gD n m)), some (.dat (.int ((0 : Nat) : Int))), some (.dat (pD n p)), some (.dat (.bool ((List.range u).all (kpT n m p)))), x7, x8, none] ∧ s = s4) ⟨_, _, rfl, rfl⟩ ?_ ?_
        · rintro u ρ1 s3 hu ⟨x7, x8, rfl, rfl⟩
          have hu : u < n := by omega
          have sq : seqOf (.dat (pD n p)) = some ((pL n p).map natD) := rfl
          (repeat' (first | simp? only [sq] | rw [rst_cons] | rw [wp_blk] | rw [rst_frz] | rw [wp_frz] | (refine And.intro (fun _ => ?_) (fun _ => ?_)) | fail))
          refine lc_flt (e := natD) (l := pL n p) (p := fun h => !(pL n p).contains (turn n m h u)) (g := fun _ => .int 0) (by omega) (fun h hh R h1 h2 => ?_) ?_
          · have hh1 := (mem_pL.mp hh).1
            have ii : inV (natD (turn n m h u)) (pD n p) = some ((pL n p).contains (turn n m h u)) := o_inN
            simp? only [NB, B.turned_w (k := k - 1) (by omega) G hh1 hu, ii]
            exact ⟨fun h => h1 (by rw [h]; rfl), fun h => h2 (by rw [h]; rfl)⟩
          · have neF := neK n m p u
            cases hk : kpT n m p u
            · rw [hk] at neF
              (repeat' (first | simp? only [neF] | rw [rst_cons] | rw [wp_blk] | rw [rst_frz] | rw [wp_frz] | (refine And.intro (fun _ => ?_) (fun _ => ?_)) | fail))
              exact ⟨_, _, by rw [all_succ, hk, Bool.and_false], rfl⟩
            · rw [hk] at neF
              (repeat' (first | simp? only [neF] | rw [rst_cons] | rw [wp_blk] | rw [rst_frz] | rw [wp_frz] | (refine And.intro (fun _ => ?_) (fun _ => ?_)) | fail))
              exact ⟨_, _, by rw [all_succ, hk, Bool.and_true], rfl⟩
        · rintro ρ1 s3 ⟨x7, x8, rfl, rfl⟩
          rw [kpT_all]
          cases K : keptB n m p
          · (repeat' (first | simp? only [told_w (k := k - 1) hto h0 h1 h2 h3 V (by omega) G H, K] | rw [rst_cons] | rw [wp_blk] | rw [rst_frz] | rw [wp_frz] | (refine And.intro (fun _ => ?_) (fun _ => ?_)) | fail))
            exact ⟨_, _, _, _, _, _, rfl, hi, hF.mono (by omega)⟩
          · (repeat' (first | simp? only [told_w (k := k - 1) hto h0 h1 h2 h3 V (by omega) G H, K, gs, right_w (k := k - 1) hor h2 h5 q1 q2 q3 q4 (by omega) G H K] | rw [rst_cons] | rw [wp_blk] | rw [rst_frz] | rw [wp_frz] | (refine And.intro (fun _ => ?_) (fun _ => ?_)) | fail))
            exact ⟨_, _, _, _, _, _, rfl, hi, hF.mono (by omega)⟩
      · have d0 : decide ((t : Int) = 0) = false := decide_eq_false (by omega)
        have pl := pL_le n p
        (repeat' (first | simp? only [d0] | rw [rst_cons] | rw [wp_blk] | rw [rst_frz] | rw [wp_frz] | (refine And.intro (fun _ => ?_) (fun _ => ?_)) | fail))
        (repeat' (first | simp? only [GB] | rw [rst_cons] | rw [wp_blk] | rw [rst_frz] | rw [wp_frz] | (refine And.intro (fun _ => ?_) (fun _ => ?_)) | fail))
        refine for_rng (fun u ρ s => ∃ (x7 x8 : Option D), ρ = [some (.dat (.list (ns.map .int))), some (.dat (.int j)), some (.ref i), some (.dat (gD n m)), some (.dat (.int t)), some (.dat (pD n p)), some (.dat (.bool ((List.range u).all (kpT n m p)))), x7, x8, none] ∧ s = s2) ⟨_, _, rfl, rfl⟩ ?_ ?_
        · rintro u ρ1 s3 hu ⟨x7, x8, rfl, rfl⟩
          have hu : u < n := by omega
          have sq : seqOf (.dat (pD n p)) = some ((pL n p).map natD) := rfl
          (repeat' (first | simp? only [sq] | rw [rst_cons] | rw [wp_blk] | rw [rst_frz] | rw [wp_frz] | (refine And.intro (fun _ => ?_) (fun _ => ?_)) | fail))
          refine lc_flt (e := natD) (l := pL n p) (p := fun h => !(pL n p).contains (turn n m h u)) (g := fun _ => .int 0) (by omega) (fun h hh R h1 h2 => ?_) ?_
          · have hh1 := (mem_pL.mp hh).1
            have ii : inV (natD (turn n m h u)) (pD n p) = some ((pL n p).contains (turn n m h u)) := o_inN
            simp? only [NB, B.turned_w (k := k - 1) (by omega) G hh1 hu, ii]
            exact ⟨fun h => h1 (by rw [h]; rfl), fun h => h2 (by rw [h]; rfl)⟩
          · have neF := neK n m p u
            cases hk : kpT n m p u
            · rw [hk] at neF
              (repeat' (first | simp? only [neF] | rw [rst_cons] | rw [wp_blk] | rw [rst_frz] | rw [wp_frz] | (refine And.intro (fun _ => ?_) (fun _ => ?_)) | fail))
              exact ⟨_, _, by rw [all_succ, hk, Bool.and_false], rfl⟩
            · rw [hk] at neF
              (repeat' (first | simp? only [neF] | rw [rst_cons] | rw [wp_blk] | rw [rst_frz] | rw [wp_frz] | (refine And.intro (fun _ => ?_) (fun _ => ?_)) | fail))
              exact ⟨_, _, by rw [all_succ, hk, Bool.and_true], rfl⟩
        · rintro ρ1 s3 ⟨x7, x8, rfl, rfl⟩
          rw [kpT_all]
          cases K : keptB n m p
          · (repeat' (first | simp? only [told_w (k := k - 1) hto h0 h1 h2 h3 V (by omega) G H, K] | rw [rst_cons] | rw [wp_blk] | rw [rst_frz] | rw [wp_frz] | (refine And.intro (fun _ => ?_) (fun _ => ?_)) | fail))
            exact ⟨_, _, _, _, _, _, rfl, hi, hF.mono (by omega)⟩
          · (repeat' (first | simp? only [told_w (k := k - 1) hto h0 h1 h2 h3 V (by omega) G H, K, gs, right_w (k := k - 1) hor h2 h5 q1 q2 q3 q4 (by omega) G H K] | rw [rst_cons] | rw [wp_blk] | rw [rst_frz] | rw [wp_frz] | (refine And.intro (fun _ => ?_) (fun _ => ?_)) | fail))
            exact ⟨_, _, _, _, _, _, rfl, hi, hF.mono (by omega)⟩
    · rintro ρ1 s1 ⟨c, x4, x5, x6, x7, x8, rfl, hi, hF⟩
      sizeOf_list_dec
      exact ⟨_, _, _, _, _, _, _, _, rfl⟩
  · rintro ρ1 s1 ⟨x1, x2, x3, x4, x5, x6, x7, x8, rfl⟩
    sizeOf_list_dec
theorem main_law {it ip ic im ia ih ig ir is iy isn isd ikp ib iu iA jo jp jkb lb lt jt jk js jw ja lto lor : Nat} {dp : Def} (T : TxG P it ip ic im ia ih ig) (U : TxP P ip ir is iy) (V : TxT P ib iu iA) (B : TxB P lb lt) (h0 : P[jo]? = some (d_over isn isd ikp)) (h1 : P[isn]? = some d_side_numbers) (h2 : P[isd]? = some d_sides) (h3 : P[ikp]? = some (d_is_kept iA)) (hp : P[jp]? = some dp) (lp : Like dp d_law_part) (hkb : P[jkb]? = some (d_kept_by jp iA)) (h5 : P[ja]? = some (d_ask_group jt jk js)) (q1 : P[jt]? = some d_is_threefold) (q2 : P[jk]? = some d_has_back) (q3 : P[js]? = some (d_is_shaped jw)) (q4 : P[jw]? = some d_is_whole) (hto : P[lto]? = some (d_law_told jo)) (hor : P[lor]? = some (d_law_over_right ja isd))
    (hf : P[f]? = some (d_law lor lto lt jkb is iy jo ig it)) (hw : 65 ≤ w) (hk : 6 < k) : LawOk P w k f :=
  ⟨fun _ hn => main_ok T U V B h0 h1 h2 h3 hp lp hkb h5 q1 q2 q3 q4 hto hor hf hw hk hn⟩
end
end K23
end K23

set_option maxRecDepth 100000
set_option autoImplicit false
set_option maxHeartbeats 8000000
namespace K23
open PySem PySem.Spec PyProof.Rows L2 MP

def P : List Def := [d_is_whole, d_is_shaped 0, d_has_back, d_is_threefold, d_ask_group 3 2 1, d_back, d_turned_by 5, d_part_by, d_turned_all 6, d_kept_by 7 8, d_is_kept 8, d_sides, d_side_numbers, d_over 12 11 10, d_law_tape, d_law_pick, d_law_cycle, d_law_perms 15 16, d_law_after, d_law_things 18, d_law_group 18 15 19 17, d_law_back, d_law_turned 21, d_law_part, d_law_some 15, d_law_any_part 23 24, d_law_told 13, d_law_over_right 4 11, d_law 27 26 22 9 24 25 13 20 14]
def T : Tab := ⟨P, [("MOST_THINGS", .int 60)], [1, 2, 3, 4, 5, 6, 7, 8, 9, 10, 11, 12], false⟩
abbrev fuel : Nat := 100
theorem law_ok : LawOk T.P fuel 7 28 := main_law (P := T.P) (T := (⟨rfl, rfl, rfl, rfl, rfl, rfl, rfl⟩ : TxG T.P 14 15 16 17 18 19 20)) (U := (⟨rfl, rfl, rfl⟩ : TxP T.P 15 23 24 25)) (V := (⟨⟨_, rfl, ⟨fun _ => rfl, rfl, rfl⟩⟩, ⟨_, rfl, ⟨fun _ => rfl, rfl, rfl⟩⟩, ⟨_, rfl, like_all⟩⟩ : TxT T.P 5 6 8)) (B := (⟨⟨_, rfl, ⟨fun _ => rfl, rfl, rfl⟩⟩, ⟨_, rfl, ⟨fun _ => rfl, rfl, rfl⟩⟩⟩ : TxB T.P 21 22)) (isn := 12) (isd := 11) (ikp := 10) (jo := 13) (jp := 7) (jkb := 9) (jt := 3) (jk := 2) (js := 1) (jw := 0) (ja := 4) (lto := 26) (lor := 27) rfl rfl rfl rfl rfl ⟨fun _ => rfl, rfl, rfl⟩ rfl rfl rfl rfl rfl rfl rfl rfl rfl (by decide) (by decide)
theorem c0 : chkDef T (d_is_whole) (stAt PySem.Challenge.pw_classtab_k23_groups_over_parts 15) = true := by decide +kernel
theorem c1 : chkDef T (d_is_shaped 0) (stAt PySem.Challenge.pw_classtab_k23_groups_over_parts 18) = true := by decide +kernel
theorem c2 : chkDef T (d_has_back) (stAt PySem.Challenge.pw_classtab_k23_groups_over_parts 19) = true := by decide +kernel
theorem c3 : chkDef T (d_is_threefold) (stAt PySem.Challenge.pw_classtab_k23_groups_over_parts 20) = true := by decide +kernel
theorem c4 : chkDef T (d_ask_group 3 2 1) (stAt PySem.Challenge.pw_classtab_k23_groups_over_parts 21) = true := by decide +kernel
theorem c5 : chkDef T (d_back) (stAt PySem.Challenge.pw_classtab_k23_groups_over_parts 22) = true := by decide +kernel
theorem c6 : chkDef T (d_turned_by 5) (stAt PySem.Challenge.pw_classtab_k23_groups_over_parts 24) = true := by decide +kernel
theorem c7 : chkDef T (d_part_by) (stAt PySem.Challenge.pw_classtab_k23_groups_over_parts 26) = true := by decide +kernel
theorem c8 : chkDef T (d_turned_all 6) (stAt PySem.Challenge.pw_classtab_k23_groups_over_parts 27) = true := by decide +kernel
theorem c9 : chkDef T (d_kept_by 7 8) (stAt PySem.Challenge.pw_classtab_k23_groups_over_parts 28) = true := by decide +kernel
theorem c10 : chkDef T (d_is_kept 8) (stAt PySem.Challenge.pw_classtab_k23_groups_over_parts 29) = true := by decide +kernel
theorem c11 : chkDef T (d_sides) (stAt PySem.Challenge.pw_classtab_k23_groups_over_parts 30) = true := by decide +kernel
theorem c12 : chkDef T (d_side_numbers) (stAt PySem.Challenge.pw_classtab_k23_groups_over_parts 31) = true := by decide +kernel
theorem c13 : chkDef T (d_over 12 11 10) (stAt PySem.Challenge.pw_classtab_k23_groups_over_parts 32) = true := by decide +kernel
theorem c14 : chkDef T (d_law_tape) (stAt PySem.Challenge.pw_classtab_k23_groups_over_parts 34) = true := by decide +kernel
theorem c15 : chkDef T (d_law_pick) (stAt PySem.Challenge.pw_classtab_k23_groups_over_parts 35) = true := by decide +kernel
theorem c16 : chkDef T (d_law_cycle) (stAt PySem.Challenge.pw_classtab_k23_groups_over_parts 36) = true := by decide +kernel
theorem c17 : chkDef T (d_law_perms 15 16) (stAt PySem.Challenge.pw_classtab_k23_groups_over_parts 37) = true := by decide +kernel
theorem c18 : chkDef T (d_law_after) (stAt PySem.Challenge.pw_classtab_k23_groups_over_parts 38) = true := by decide +kernel
theorem c19 : chkDef T (d_law_things 18) (stAt PySem.Challenge.pw_classtab_k23_groups_over_parts 39) = true := by decide +kernel
theorem c20 : chkDef T (d_law_group 18 15 19 17) (stAt PySem.Challenge.pw_classtab_k23_groups_over_parts 40) = true := by decide +kernel
theorem c21 : chkDef T (d_law_back) (stAt PySem.Challenge.pw_classtab_k23_groups_over_parts 41) = true := by decide +kernel
theorem c22 : chkDef T (d_law_turned 21) (stAt PySem.Challenge.pw_classtab_k23_groups_over_parts 42) = true := by decide +kernel
theorem c23 : chkDef T (d_law_part) (stAt PySem.Challenge.pw_classtab_k23_groups_over_parts 43) = true := by decide +kernel
theorem c24 : chkDef T (d_law_some 15) (stAt PySem.Challenge.pw_classtab_k23_groups_over_parts 44) = true := by decide +kernel
theorem c25 : chkDef T (d_law_any_part 23 24) (stAt PySem.Challenge.pw_classtab_k23_groups_over_parts 45) = true := by decide +kernel
theorem c26 : chkDef T (d_law_told 13) (stAt PySem.Challenge.pw_classtab_k23_groups_over_parts 46) = true := by decide +kernel
theorem c27 : chkDef T (d_law_over_right 4 11) (stAt PySem.Challenge.pw_classtab_k23_groups_over_parts 47) = true := by decide +kernel
theorem c28 : chkDef T (d_law 27 26 22 9 24 25 13 20 14) (stAt PySem.Challenge.pw_classtab_k23_groups_over_parts 48) = true := by decide +kernel
end K23
open PySem PySem.W PyProof.Rows
set_option maxRecDepth 100000 in
set_option maxHeartbeats 0 in
theorem PySem.Challenge.cw_classtab_k23_groups_over_parts_holds : PySem.Challenge.rw_classtab_k23_groups_over_parts.Holds := by
  w_on; o_law; k_head; (case hw => w_witness2)
  k_fill
  refine' MP.walk_T (l := PySem.Challenge.rw_classtab_k23_groups_over_parts) (x := "_law_script") (T := K23.T) (fuel := K23.fuel) (k := 7) (f := 28) K23.law_ok rfl rfl ⟨rfl, by decide, by decide⟩ rfl (fun w h Y => PySem.W.kIn_of Y) rfl rfl rfl ?F (fun w => ?NL)
  case F =>
    intro w mg h KX G
    letI i0 : MP.Cla := ⟨fun _ => 0, fun _ => false⟩
    refine @MP.pok_of (MP.claK _ _) K23.T PySem.Challenge.pw_classtab_k23_groups_over_parts _ _ _ [15, 18, 19, 20, 21, 22, 24, 26, 27, 28, 29, 30, 31, 32, 34, 35, 36, 37, 38, 39, 40, 41, 42, 43, 44, 45, 46, 47, 48] KX G ⟨?mpd0, K23.c0, ?mpd1, K23.c1, ?mpd2, K23.c2, ?mpd3, K23.c3, ?mpd4, K23.c4, ?mpd5, K23.c5, ?mpd6, K23.c6, ?mpd7, K23.c7, ?mpd8, K23.c8, ?mpd9, K23.c9, ?mpd10, K23.c10, ?mpd11, K23.c11, ?mpd12, K23.c12, ?mpd13, K23.c13, ?mpd14, K23.c14, ?mpd15, K23.c15, ?mpd16, K23.c16, ?mpd17, K23.c17, ?mpd18, K23.c18, ?mpd19, K23.c19, ?mpd20, K23.c20, ?mpd21, K23.c21, ?mpd22, K23.c22, ?mpd23, K23.c23, ?mpd24, K23.c24, ?mpd25, K23.c25, ?mpd26, K23.c26, ?mpd27, K23.c27, ?mpd28, K23.c28, True.intro⟩ ⟨?mpb0, ?mpb1, ?mpb2, ?mpb3, ?mpb4, ?mpb5, ?mpb6, ?mpb7, ?mpb8, ?mpb9, ?mpb10, ?mpb11, ?mpb12, ?mpb13, ?mpb14, ?mpb15, ?mpb16, ?mpb17, ?mpb18, ?mpb19, ?mpb20, True.intro⟩ ⟨?mpg0, True.intro⟩ (MP.clsAll_get KX G (fun _ z => z) ⟨⟨?mcb1, ?mco1⟩, ⟨?mcb2, ?mco2⟩, ⟨?mcb3, ?mco3⟩, ⟨?mcb4, ?mco4⟩, ⟨?mcb5, ?mco5⟩, ⟨?mcb6, ?mco6⟩, ⟨?mcb7, ?mco7⟩, ⟨?mcb8, ?mco8⟩, ⟨?mcb9, ?mco9⟩, ⟨?mcb10, ?mco10⟩, ⟨?mcb11, ?mco11⟩, ⟨?mcb12, ?mco12⟩, True.intro⟩) (fun _ => MP.basOk_of KX G ?mb1) (fun _ z => List.contains_iff_mem.mp z) rfl
    case mb1 => kernel_rfl
    case mcb1 => kernel_rfl
    case mco1 =>
      intro _ _
      refine' MP.oexP_of (st := MP.mtAt PySem.Challenge.pw_classtab_k23_groups_over_parts 2 0) ?z (MP.oexC_of ?lk ?sa ?ex ?ty ?kc) ?i1 ?i2 ?l ?cd ?k (by decide +kernel); (case z => k_is); (case lk => kernel_rfl); (case sa => k_is); (case ex => k_is); (case ty => k_is); (case kc => k_is); (case i1 => k_is); (case i2 => k_is); (case l => k_is); (case cd => k_is); (case k => k_is)
    case mcb2 => kernel_rfl
    case mco2 =>
      intro _ _
      refine' MP.oexP_of (st := MP.mtAt PySem.Challenge.pw_classtab_k23_groups_over_parts 3 0) ?z (MP.oexC_of ?lk ?sa ?ex ?ty ?kc) ?i1 ?i2 ?l ?cd ?k (by decide +kernel); (case z => k_is); (case lk => kernel_rfl); (case sa => k_is); (case ex => k_is); (case ty => k_is); (case kc => k_is); (case i1 => k_is); (case i2 => k_is); (case l => k_is); (case cd => k_is); (case k => k_is)
    case mcb3 => kernel_rfl
    case mco3 =>
      intro _ _
      refine' MP.oexP_of (st := MP.mtAt PySem.Challenge.pw_classtab_k23_groups_over_parts 4 0) ?z (MP.oexC_of ?lk ?sa ?ex ?ty ?kc) ?i1 ?i2 ?l ?cd ?k (by decide +kernel); (case z => k_is); (case lk => kernel_rfl); (case sa => k_is); (case ex => k_is); (case ty => k_is); (case kc => k_is); (case i1 => k_is); (case i2 => k_is); (case l => k_is); (case cd => k_is); (case k => k_is)
    case mcb4 => kernel_rfl
    case mco4 =>
      intro _ _
      refine' MP.oexP_of (st := MP.mtAt PySem.Challenge.pw_classtab_k23_groups_over_parts 5 0) ?z (MP.oexC_of ?lk ?sa ?ex ?ty ?kc) ?i1 ?i2 ?l ?cd ?k (by decide +kernel); (case z => k_is); (case lk => kernel_rfl); (case sa => k_is); (case ex => k_is); (case ty => k_is); (case kc => k_is); (case i1 => k_is); (case i2 => k_is); (case l => k_is); (case cd => k_is); (case k => k_is)
    case mcb5 => kernel_rfl
    case mco5 =>
      intro _ _
      refine' MP.oexP_of (st := MP.mtAt PySem.Challenge.pw_classtab_k23_groups_over_parts 6 0) ?z (MP.oexC_of ?lk ?sa ?ex ?ty ?kc) ?i1 ?i2 ?l ?cd ?k (by decide +kernel); (case z => k_is); (case lk => kernel_rfl); (case sa => k_is); (case ex => k_is); (case ty => k_is); (case kc => k_is); (case i1 => k_is); (case i2 => k_is); (case l => k_is); (case cd => k_is); (case k => k_is)
    case mcb6 => kernel_rfl
    case mco6 =>
      intro _ _
      refine' MP.oexP_of (st := MP.mtAt PySem.Challenge.pw_classtab_k23_groups_over_parts 7 0) ?z (MP.oexC_of ?lk ?sa ?ex ?ty ?kc) ?i1 ?i2 ?l ?cd ?k (by decide +kernel); (case z => k_is); (case lk => kernel_rfl); (case sa => k_is); (case ex => k_is); (case ty => k_is); (case kc => k_is); (case i1 => k_is); (case i2 => k_is); (case l => k_is); (case cd => k_is); (case k => k_is)
    case mcb7 => kernel_rfl
    case mco7 =>
      intro _ _
      refine' MP.oexP_of (st := MP.mtAt PySem.Challenge.pw_classtab_k23_groups_over_parts 8 0) ?z (MP.oexC_of ?lk ?sa ?ex ?ty ?kc) ?i1 ?i2 ?l ?cd ?k (by decide +kernel); (case z => k_is); (case lk => kernel_rfl); (case sa => k_is); (case ex => k_is); (case ty => k_is); (case kc => k_is); (case i1 => k_is); (case i2 => k_is); (case l => k_is); (case cd => k_is); (case k => k_is)
    case mcb8 => kernel_rfl
    case mco8 => exact fun _ z => (z rfl).elim
    case mcb9 => kernel_rfl
    case mco9 => exact fun _ z => (z rfl).elim
    case mcb10 => kernel_rfl
    case mco10 => exact fun _ z => (z rfl).elim
    case mcb11 => kernel_rfl
    case mco11 => exact fun _ z => (z rfl).elim
    case mcb12 => kernel_rfl
    case mco12 => exact fun _ z => (z rfl).elim
    case mpd0 => refine' MP.def_at KX G ?a ?l ?c ?k; (case a => k_is); (case l => k_is); (case c => k_is); (case k => k_is)
    case mpd1 => refine' MP.def_at KX G ?a ?l ?c ?k; (case a => k_is); (case l => k_is); (case c => k_is); (case k => k_is)
    case mpd2 => refine' MP.def_at KX G ?a ?l ?c ?k; (case a => k_is); (case l => k_is); (case c => k_is); (case k => k_is)
    case mpd3 => refine' MP.def_at KX G ?a ?l ?c ?k; (case a => k_is); (case l => k_is); (case c => k_is); (case k => k_is)
    case mpd4 => refine' MP.def_at KX G ?a ?l ?c ?k; (case a => k_is); (case l => k_is); (case c => k_is); (case k => k_is)
    case mpd5 => refine' MP.def_at KX G ?a ?l ?c ?k; (case a => k_is); (case l => k_is); (case c => k_is); (case k => k_is)
    case mpd6 => refine' MP.def_at KX G ?a ?l ?c ?k; (case a => k_is); (case l => k_is); (case c => k_is); (case k => k_is)
    case mpd7 => refine' MP.def_at KX G ?a ?l ?c ?k; (case a => k_is); (case l => k_is); (case c => k_is); (case k => k_is)
    case mpd8 => refine' MP.def_at KX G ?a ?l ?c ?k; (case a => k_is); (case l => k_is); (case c => k_is); (case k => k_is)
    case mpd9 => refine' MP.def_at KX G ?a ?l ?c ?k; (case a => k_is); (case l => k_is); (case c => k_is); (case k => k_is)
    case mpd10 => refine' MP.def_at KX G ?a ?l ?c ?k; (case a => k_is); (case l => k_is); (case c => k_is); (case k => k_is)
    case mpd11 => refine' MP.def_at KX G ?a ?l ?c ?k; (case a => k_is); (case l => k_is); (case c => k_is); (case k => k_is)
    case mpd12 => refine' MP.def_at KX G ?a ?l ?c ?k; (case a => k_is); (case l => k_is); (case c => k_is); (case k => k_is)
    case mpd13 => refine' MP.def_at KX G ?a ?l ?c ?k; (case a => k_is); (case l => k_is); (case c => k_is); (case k => k_is)
    case mpd14 => refine' MP.def_at KX G ?a ?l ?c ?k; (case a => k_is); (case l => k_is); (case c => k_is); (case k => k_is)
    case mpd15 => refine' MP.def_at KX G ?a ?l ?c ?k; (case a => k_is); (case l => k_is); (case c => k_is); (case k => k_is)
    case mpd16 => refine' MP.def_at KX G ?a ?l ?c ?k; (case a => k_is); (case l => k_is); (case c => k_is); (case k => k_is)
    case mpd17 => refine' MP.def_at KX G ?a ?l ?c ?k; (case a => k_is); (case l => k_is); (case c => k_is); (case k => k_is)
    case mpd18 => refine' MP.def_at KX G ?a ?l ?c ?k; (case a => k_is); (case l => k_is); (case c => k_is); (case k => k_is)
    case mpd19 => refine' MP.def_at KX G ?a ?l ?c ?k; (case a => k_is); (case l => k_is); (case c => k_is); (case k => k_is)
    case mpd20 => refine' MP.def_at KX G ?a ?l ?c ?k; (case a => k_is); (case l => k_is); (case c => k_is); (case k => k_is)
    case mpd21 => refine' MP.def_at KX G ?a ?l ?c ?k; (case a => k_is); (case l => k_is); (case c => k_is); (case k => k_is)
    case mpd22 => refine' MP.def_at KX G ?a ?l ?c ?k; (case a => k_is); (case l => k_is); (case c => k_is); (case k => k_is)
    case mpd23 => refine' MP.def_at KX G ?a ?l ?c ?k; (case a => k_is); (case l => k_is); (case c => k_is); (case k => k_is)
    case mpd24 => refine' MP.def_at KX G ?a ?l ?c ?k; (case a => k_is); (case l => k_is); (case c => k_is); (case k => k_is)
    case mpd25 => refine' MP.def_at KX G ?a ?l ?c ?k; (case a => k_is); (case l => k_is); (case c => k_is); (case k => k_is)
    case mpd26 => refine' MP.def_at KX G ?a ?l ?c ?k; (case a => k_is); (case l => k_is); (case c => k_is); (case k => k_is)
    case mpd27 => refine' MP.def_at KX G ?a ?l ?c ?k; (case a => k_is); (case l => k_is); (case c => k_is); (case k => k_is)
    case mpd28 => refine' MP.def_at KX G ?a ?l ?c ?k; (case a => k_is); (case l => k_is); (case c => k_is); (case k => k_is)
    case mpb0 => k_is
    case mpb1 => k_is
    case mpb2 => k_is
    case mpb3 => k_is
    case mpb4 => k_is
    case mpb5 => k_is
    case mpb6 => k_is
    case mpb7 => k_is
    case mpb8 => k_is
    case mpb9 => k_is
    case mpb10 => k_is
    case mpb11 => k_is
    case mpb12 => k_is
    case mpb13 => k_is
    case mpb14 => k_is
    case mpb15 => k_is
    case mpb16 => k_is
    case mpb17 => k_is
    case mpb18 => k_is
    case mpb19 => k_is
    case mpb20 => k_is
    case mpg0 => refine' MP.glob_int ?a; (case a => k_is)
  case NL => exact Eq.refl true
